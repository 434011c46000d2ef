import PyProof.Rows.All
import Wide.All
import OpenK.AllK
import Wide.FinOn
import PyProof.EqAt
import PyProof.EqKinds
import PyProof.TupleCall
import KE.KExcSuper
import KE.KExcIs
import HandS.Base
import HandS.Call
import HandS.List
import HandS.Ends
import HandS.Exc
import HandS.ExcInit
import HandS.ExcSuper
import HandS.MakeKwOnly
import HandS.IsInst
import HandS.ForMost
import HandS.TryOnly
import HandS.WordsExc
import HandS.ExcOwn
import HandS.ExcField
import HandS.TupAny
import HandS.Zip
import KE.GoesMore
import KE.GoesZip
import KE.GoesEnum
import HandS.Strs
import HandS.Evl
import HandS.Walk
import HandS.More
import HandS.DictTup
import HandS.DictComp
import KE.KSortTupG
import KE.KDictCopyH
import KE.KSortTupUse
import HandS.ExcIs
import HandS.ExcCtx
import HandS.HotCalls
import HandS.Text
import KE.KxAffix
import KE.KxText
import HandS.TryMany
import HandS.OwnEq
import HandS.RaiseMore
import HandS.StrMore
import HandS.Star
import KE.DataEq
import HandS.Comp
import HandS.Wide
import PySem.Challenge.RW_openruns_k24_text_arguments
set_option Elab.async false
set_option linter.all false
set_option maxRecDepth 100000
set_option maxHeartbeats 4000000
namespace PySem
namespace XL
open PySem.W PySem.Calls PyProof.Rows
section
variable {M : Model} {prog : Program} {w : World} {A : Around} {E : Value → Shared → Prop} {R : Result → Shared → Prop} {h : Heap} {g : Array GenState} {d : Drawn} {t : Nat} {os : OsState}
variable {nm q : Str} {C N : Addr} {bs bm bmB : List Value} {hdct : Bool} {sn : List Str} {sub : List Value} {ab : Bool} {col : Option Bool} {dd : Option Addr} {k0 k1 k2 k3 k5 : Option Value} {B newId initId : String}
theorem check_newK (F : ExcBaseFacts B newId initId bmB) (hT : ∀ X : String, bm.contains (.type X) = bmB.contains (.type X)) {rest : List Value} {kw : List (Str × Value)} {Q : Unit → Shared → Prop}
   (hC : h.get? C = some (excClassObj nm q C N bs bm hdct sn sub ab col dd k0 k1 k2 k3 k5 newId)) (hq : Q () ⟨h, g, d, t, os⟩) : wpAny M A (checkBuiltinCall newId ⟨.ref C :: rest, kw⟩) Q E ⟨h, g, d, t, os⟩ := by
 have hcont : (Value.ref C :: bm).contains (.type B) = true := by rw [List.contains_cons, hT, F.hasB, Bool.or_true]
 have hstar := F.noStar
 simp only [checkBuiltinCall, F.newKind, F.newSplit, F.newRow]
 repeat (first | refine wpAny_loadPart_at hC ?_ | (refine wpAny_isSubtype_exc hC ?_; rw [hcont]) | refine wpAny_staticBase_exc hC ?_ | refine wpAny_madeBy_exc hC ?_ | simp only [bne_self_eq_false, Bool.false_eq_true, if_false] | wp_step)
 exact hq
theorem newK (F : ExcBaseFacts B newId initId bmB) (hT : ∀ X : String, bm.contains (.type X) = bmB.contains (.type X)) {rest : List Value} {kw : List (Str × Value)}
   (hC : h.get? C = some (excClassObj nm q C N bs bm hdct sn sub ab col dd k0 k1 k2 k3 k5 newId))
   (hq : R (.ok (.ret (.ref (h.objs.size + 1)))) ⟨(h.push { cls := .type "tuple", data := .seq rest.toArray }).push
     { cls := .ref C, data := .fields #[.ref h.objs.size, .none, .none, .none, .bool false, .none] }, g, d, t, os⟩) (hrest : rest.length ≤ sizeLine) :
   codeAny (model prog w) A (.builtin newId ⟨.ref C :: rest, kw⟩) R ⟨h, g, d, t, os⟩ := by
 have hends := F.ends
 have hcB : (Value.ref C :: bm).contains (.type B) = true := by rw [List.contains_cons, hT, F.hasB, Bool.or_true]
 have hcA : (Value.ref C :: bm).contains (.type "AttributeError") = false := by rw [List.contains_cons, hT, F.noAttr]; rfl
 have hcN : (Value.ref C :: bm).contains (.type "NameError") = false := by rw [List.contains_cons, hT, F.noName]; rfl
 refine codeAny_builtinAt F.entry ?_
 unfold Builtin.«BaseException.__new__»
 refine wpAt_bind ?_
 show wpAt _ _ _ (stack >>= _) _ _ _
 refine wpAt_bind (wpAt_stack fun p below => wpAt_of_wpAny ?_)
 wp_walk
 refine wpAt_of_wpAny ?_
 rw [F.owner]
 repeat (first | with_reducible refine wpAny_madeHere_exc F.canon hC ?_ | with_reducible refine wpAny_loadPart_at hC ?_ | (with_reducible refine wpAny_isSubtype_exc hC ?_; first | rw [hcB] | rw [hcA] | rw [hcN]) | wp_step)
 show R _ _
 rw [Heap.size_push]
 exact hq
theorem type_callK (F : ExcBaseFacts B newId initId bmB) (hT : ∀ X : String, bm.contains (.type X) = bmB.contains (.type X)) {rest : List Value} {kw : List (Str × Value)} {fI : Addr} {Q : Fin → Shared → Prop}
   (hC : h.get? C = some (excClassObj nm q C N bs bm hdct sn sub ab col dd k0 k1 k2 k3 k5 newId))
   (hi : W.Looks (model prog w) h (typeLookup (.ref C) "__init__") (some (.ref fI))) (hb : ∀ self, W.Looks (model prog w) h (bindSpecial (.ref fI) self) (.ref fI, [self])) (hrest : rest.length ≤ sizeLine)
   (hq : codeAny (model prog w) A (.call (.ref fI) ⟨.ref (h.objs.size + 1) :: rest, kw⟩)
     (fun r s' => match r with | .ok (.ret v) => v = .none ∧ Q (.done (.ret (.ref (h.objs.size + 1)))) s' | .ok _ => False | .error e => E e s')
     ⟨(h.push (W.kdv_tup rest)).push (HandSPX.excO C h.objs.size), g, d, t, os⟩) :
   wpAny (model prog w) A (Builtin.«type.__call__» ⟨.ref C :: rest, kw⟩) Q E ⟨h, g, d, t, os⟩ := by
 repeat (first | with_reducible refine wpAny_loadPart_at hC ?_ | with_reducible refine wpAny_madeBy_exc hC ?_ | wp_step)
 refine codeAny_call_builtin_code (Code.quiet_builtin _ F.quiet) (check_newK F hT hC ?_)
 refine newK F hT hC ?_ hrest
 show wpAny _ _ _ _ _ _
 have k : ∀ b o, h.get? b = some o → ((h.push (W.kdv_tup rest)).push (HandSPX.excO C h.objs.size)).get? b = some o := fun b o e => Heap.get?_push_of_some _ (Heap.get?_push_of_some _ e)
 have hC₁ := k _ _ hC
 have hget : ((h.push (W.kdv_tup rest)).push (HandSPX.excO C h.objs.size)).get? (h.objs.size + 1) = some (HandSPX.excO C h.objs.size) := by heap_get
 have hcC : (Value.ref C :: bm).contains (.ref C) = true := by simp
 have i1 := hi.keeps k
 have b1 := (hb (.ref (h.objs.size + 1))).keeps k
 unfold isInstance
 repeat (first | with_reducible refine wpAny_loadPart_at hget ?_ | (with_reducible refine wpAny_isSubtype_exc hC₁ ?_; rw [hcC]) | wp_step)
 show wpAny _ _ (typeLookup (.ref C) _) _ _ _
 refine i1.at ?_
 refine wpAny_holding (wpAny_bind (b1.at ?_))
 refine wpAny_bind (wpAny_call (codeAny_mono hq fun r s' z => ?_))
 rcases r with e | (v | _ | _ | _) <;> first | exact z | exact z.elim | skip
 obtain ⟨rfl, z⟩ := z
 first
   | exact wpAny_pure (wpAny_pure z)
   | (wp_walk; exact z)
theorem check_typeK {M : Model} {rest : List Value} {kw : List (Str × Value)} {Q : Unit → Shared → Prop} (hC : h.get? C = some (excClassObj nm q C N bs bm hdct sn sub ab col dd k0 k1 k2 k3 k5 newId))
   (hq : Q () ⟨h, g, d, t, os⟩) : wpAny M A (checkBuiltinCall "type.__call__" ⟨.ref C :: rest, kw⟩) Q E ⟨h, g, d, t, os⟩ := by
 have f3 := tc_sub
 have hT : (⟨h, g, d, t, os⟩ : Shared).TypeIs (.ref C) "type" := ⟨_, hC, rfl⟩
 simp only [checkBuiltinCall, tc_kind, tc_split]
 repeat (any_goals (first | assumption | with_reducible refine wpAny_loadPart_at hC ?_ | with_reducible refine wpAny_onRaise ?_ | with_reducible refine wpAny_map ?_ | wp_step))
theorem call_ownK (F : ExcBaseFacts B newId initId bmB) (hT : ∀ X : String, bm.contains (.type X) = bmB.contains (.type X)) {rest : List Value} {kw : List (Str × Value)} {fI : Addr}
   (hC : h.get? C = some (excClassObj nm q C N bs bm hdct sn sub ab col dd k0 k1 k2 k3 k5 newId))
   (hi : W.Looks (model prog w) h (typeLookup (.ref C) "__init__") (some (.ref fI))) (hb : ∀ self, W.Looks (model prog w) h (bindSpecial (.ref fI) self) (.ref fI, [self])) (hrest : rest.length ≤ sizeLine)
   (hq : codeAny (model prog w) (A.under (.builtin "type.__call__" ⟨.ref C :: rest, kw⟩)) (.call (.ref fI) ⟨.ref (h.objs.size + 1) :: rest, kw⟩) (W.InitBack (h.objs.size + 1) R)
     ⟨(h.push (W.kdv_tup rest)).push (HandSPX.excO C h.objs.size), g, d, t, os⟩) :
   codeAny (model prog w) A (.call (.ref C) ⟨rest, kw⟩) R ⟨h, g, d, t, os⟩ := by
 have f1 := tc_lookup
 have f2 := tc_bind (.ref C)
 have hTy : (⟨h, g, d, t, os⟩ : Shared).TypeIs (.ref C) "type" := ⟨_, hC, rfl⟩
 refine codeAny_of_tree ?_
 show wpAny _ _ (callAny (.ref C) _) _ _ _
 repeat (any_goals (first | assumption | with_reducible refine wpAny_loadPart_at hC ?_ | wp_step))
 refine ⟨rfl, ?_⟩
 refine codeAny_call_builtin_at (Code.quiet_builtin _ (by decide +kernel)) entry_typeCall (check_typeK hC (type_callK F hT hC hi hb hrest ?_))
 refine codeAny_mono hq fun r s' z => ?_
 rcases r with e | (v | _ | _ | _) <;> exact z
end
end XL
end PySem
namespace PySem
namespace XL
open PySem.W PySem.Calls PyProof.Rows Builtin Builtin.ObjectAttr
abbrev lkT : List Value := [.type "LookupError", .type "Exception", .type "BaseException", .type "object"]
theorem lk_ne {l : List Value} (e : excTail lkT l = true) : l.isEmpty = false := by
 rcases excTail_cases l e with ⟨c, r, rfl, _⟩ | rfl <;> rfl
section
variable {prog : Program} {w : World} {A : Around} {E : Value → Shared → Prop} {R : Result → Shared → Prop} {hp : Heap} {g : Array GenState} {d : Drawn} {t : Nat} {os : OsState}
theorem osa_walk {K : W.Frag} {name : Str} {tk : Tok} {v : Value} {x C : Addr} {ox : Obj} {od : Option Obj} {cd : ClassData}
   (X : K.In hp) (I : W.InstAt hp x ox C od) (hcd : W.clsIn K C = some cd) (hm : excTail lkT cd.mro = true) (ha : W.findIn K (.ref C) name = some none)
   (hq : wpAny (model prog w) A.in1 (Builtin.ObjectAttr.storeInOwnDict (.ref x) (.ref C) (.str name tk) name v false)
     (fun fin s' => match fin with | .done f => R (.ok f) s' | .again c' => c'.quiet = true ∧ codeAny (model prog w) A c' R s') (fun e s' => R (.error e) s') ⟨hp, g, d, t, os⟩) :
   codeAny (model prog w) A (.call (.builtin "object.__setattr__") ⟨[.ref x, .str name tk, v], []⟩) R ⟨hp, g, d, t, os⟩ := by
 have SF := F.store_LookupError
 have ne := lk_ne hm
 have hob : cd.mro.contains (.type "object") = true := (excTail_contains "object" _ hm).trans (by decide +kernel)
 have sub : W.Looks (model prog w) hp (isInstance (.ref x) (.type "object")) true := I.type.andThen (W.looks_mroIn X (by unfold W.mroIn; rw [hcd, Option.bind_some, if_neg (by rw [ne]; decide), hob]))
 refine codeAny_call_builtin SF.slot.plain SF.entry (@W.check_slot (model prog w) _ _ ⟨hp, g, d, t, os⟩ "object.__setattr__" "object" "__setattr__" (.ref x) [.str name tk, v] [] _ SF.kind SF.split sub (SF.args (.ref x) (.str name tk) v) ?_)
 have hmr : W.Looks (model prog w) hp (mroOf (.ref C)) cd.mro := (W.looks_clsIn X hcd).andThen .now
 have L3 : W.Looks (model prog w) hp (storeTaker? none) none := .now
 rw [W.osa_eq, refuse_eq]
 refine wpAny_bind (wpAny_bind (I.type.at (wpAny_bind (hmr.at ?_))))
 rw [excTail_pass _ (SF.passes _) _ hm]
 refine wpAny_pure (wpAny_bind (I.type.at (wpAny_bind ((W.looks_findIn X ha).at (wpAny_bind (L3.at ?_))))))
 exact hq
theorem osa_new {K : W.Frag} {name : Str} {tk : Tok} {v : Value} {x C : Addr} {fv : Array Value} {cd : ClassData}
   (X : K.In hp) (hx : hp.get? x = some { cls := .ref C, data := .fields fv }) (hcd : W.clsIn K C = some cd) (hm : excTail lkT cd.mro = true) (hh : cd.hasDict = true) (ha : W.findIn K (.ref C) name = some none)
   (hq : ∀ h' tk' dx, (∀ b o, b ≠ x → hp.get? b = some o → h'.get? b = some o) → hp.objs.size ≤ dx → dx ≠ x → h'.get? x = some { cls := .ref C, dict := some dx, data := .fields fv } →
     h'.Ns1 dx (fun y => if y = name then some v else none) → R (.ok (.ret .none)) ⟨h', g, d, tk', os⟩) :
   codeAny (model prog w) A (.call (.builtin "object.__setattr__") ⟨[.ref x, .str name tk, v], []⟩) R ⟨hp, g, d, t, os⟩ := by
 have I : W.InstAt hp x { cls := .ref C, data := .fields fv } C none := ⟨hx, rfl, rfl, trivial⟩
 have hxs : x ≠ hp.objs.size := Nat.ne_of_lt (Heap.lt_size hx)
 refine osa_walk X I hcd hm ha ?_
 have hcls : W.Looks (model prog w) hp (classData C) cd := W.looks_clsIn X hcd
 obtain ⟨nm, bs, mro, ns, qn, hd, sn, sb, ab, col, del⟩ := cd
 dsimp only at hh
 subst hh
 unfold Builtin.ObjectAttr.storeInOwnDict Builtin.ObjectAttr.ownDictForStores
 repeat (first | with_reducible refine HandSPX.store_in_new ?_ ?_ | with_reducible refine wpAny_loadPart_at hx ?_ | with_reducible refine hcls.at ?_ | wp_step)
 · exact ⟨_, #[], _, (Heap.get?_update_ne _ _ _ _ hxs.symm).trans (Heap.get?_push_at rfl rfl), rfl, fun e he => absurd he (by simp), fun _ => rfl⟩
 · intro h' tk' hn' hs
   have hx₁ : (hp.push { cls := .type "dict", data := .dict #[] }).get? x = some { cls := .ref C, data := .fields fv } := Heap.get?_push_of_some _ hx
   refine hq h' tk' hp.objs.size (fun b o hb ho => ?_) (Nat.le_refl _) hxs.symm ?_ hn'
   · exact (hs.2 b (Nat.ne_of_lt (Heap.lt_size ho))).trans ((Heap.get?_update_ne _ _ _ _ hb).trans (Heap.get?_push_of_some _ ho))
   · exact (hs.2 x hxs).trans (Heap.get?_update_self _ hx₁ rfl)
theorem osa_old {K : W.Frag} {name : Str} {tk : Tok} {v : Value} {x C dx : Addr} {fv : Array Value} {cd : ClassData} {m0 : Str → Option Value} {nl : List Str}
   (X : K.In hp) (hx : hp.get? x = some { cls := .ref C, dict := some dx, data := .fields fv }) (hns : hp.Ns1 dx m0) (hw : Within m0 nl) (hz : nl.length ≤ 1000) (hcd : W.clsIn K C = some cd) (hm : excTail lkT cd.mro = true) (hh : cd.hasDict = true)
   (ha : W.findIn K (.ref C) name = some none)
   (hq : ∀ h' tk', (∀ b o, b ≠ dx → hp.get? b = some o → h'.get? b = some o) → h'.Ns1 dx (fun y => if y = name then some v else m0 y) → R (.ok (.ret .none)) ⟨h', g, d, tk', os⟩) :
   codeAny (model prog w) A (.call (.builtin "object.__setattr__") ⟨[.ref x, .str name tk, v], []⟩) R ⟨hp, g, d, t, os⟩ := by
 obtain ⟨oD, esD, epD, hoD, hdD, _⟩ := hns.count hw
 have I : W.InstAt hp x { cls := .ref C, dict := some dx, data := .fields fv } C (some oD) := ⟨hx, rfl, rfl, hoD⟩
 refine osa_walk X I hcd hm ha ?_
 have hcls : W.Looks (model prog w) hp (classData C) cd := W.looks_clsIn X hcd
 obtain ⟨nm, bs, mro, ns, qn, hd, sn, sb, ab, col, del⟩ := cd
 dsimp only at hh
 subst hh
 unfold Builtin.ObjectAttr.storeInOwnDict Builtin.ObjectAttr.ownDictForStores
 repeat (first | with_reducible refine OEX.store_in_old hns hw hz ?_ | with_reducible refine wpAny_loadPart_at hx ?_ | with_reducible refine hcls.at ?_ | wp_step)
 intro h' tk' hn' hs
 exact hq h' tk' (fun b o hb ho => (hs.2 b hb).trans ho) hn'
end
section
variable {prog : Program} {w : World} {A : Around} {E : Value → Shared → Prop} {R : Result → Shared → Prop} {s : Shared} {K : Frag}
structure XCls (prog : Program) (K : Frag) (C : Addr) : Prop where
 cls : ∃ nm q N bs bm sn sub ab col dd k0 k1 k2 k3 k5, K.lookup C = some (excClassObj nm q C N bs bm true sn sub ab col dd k0 k1 k2 k3 k5 "LookupError.__new__") ∧ excTail lkT bm = true
 sa : findIn K (.ref C) "__setattr__" = some (some (.builtin "object.__setattr__"))
 sup : ks_superIn K C C "__init__" = some (some (.builtin "LookupError.__init__"))
 opq : nsIn K cStatics "thirdparty.any" = some none
 sg : nsIn K mainGlobals "super" = some none
 top : (prog.main.scope.names.lookup ("super" : Str)).isSome = false
structure XFn (prog : Program) (K : Frag) (C fI : Addr) (qual : Str) (params : Arguments) (body : List Stmt) (scope : Scope) : Prop where
 fn : ∃ (oc : Value) (od : Option Addr) (kV doc pm : Value) (an : Option Addr) (cda : Addr) (ct : Value) (cc : Addr) (osl : Array (Option Value)) (cl ccl : Value) (cld cdd : Option Addr) (csl ccs : Array (Option Value)) (vs : Array Value) (file : Str) (tf : Tok),
   K.lookup fI = some ⟨oc, od, .func (ksFn "__init__" qual params body scope .none kV doc pm an (.ref cda) ct cc), osl⟩ ∧ codeIn K (.ref cda) qual = true ∧
   K.lookup cc = some ⟨cl, cld, .cell (some (.ref C)), csl⟩ ∧ K.lookup cda = some ⟨ccl, cdd, .fields vs, ccs⟩ ∧ vs[2]? = some (.str file tf) ∧ ((prog.main.file : Str) == file) = true
 iC : findIn K (.ref C) "__init__" = some (some (.ref fI))
 tI : typeIn K (.ref fI) = some (.type "function")
structure XTop (h : Heap) : Prop where
 g : ∃ mg, h.Ns mainGlobals mg
 b : ∃ mb, h.Ns builtinsNs mb ∧ ∀ x : Str, x ≠ "__name__" → mb x = bootBuiltins x
 nolimit : h.NoLimit
theorem XTop.keeps {h h' : Heap} (T : XTop h) (k : ∀ b o, h.get? b = some o → h'.get? b = some o) : XTop h' :=
 ⟨let ⟨mg, q⟩ := T.g; ⟨mg, q.keeps k⟩, let ⟨mb, q, r⟩ := T.b; ⟨mb, q.keeps k, r⟩, T.nolimit.keeps k⟩
end
end XL
end PySem
namespace PySem
namespace XL
open PySem.W PySem.Calls PyProof.Rows
section
variable {prog : Program} {w : World} {A : Around} {E : Value → Shared → Prop} {R : Result → Shared → Prop} {s : Shared} {K : Frag}
theorem call_mw {x C u t0 : Addr} {rest : List Value} {Q : Value → Shared → Prop} (T : XCls prog K C) (X : K.In s.heap) (hx : s.heap.get? x = some (HandSPX.excO C t0)) (hu : KxsAt "LookupError.__init__" u x s.heap) (hz : rest.length ≤ sizeLine)
   (hq : ∀ h' t1, (∀ b o, b ≠ x → s.heap.get? b = some o → h'.get? b = some o) → h'.get? x = some (HandSPX.excO C t1) → Q .none { s with heap := h' }) :
   wpAny (model prog w) A (call (.ref u) rest) Q E s := by
 obtain ⟨nm, q, N, bs, bm, sn, sub, ab, col, dd, k0, k1, k2, k3, k5, hC, hbm⟩ := T.cls
 have FB := F.excBase_LookupError
 obtain ⟨hh, g, d, tk, os⟩ := s
 unfold KxsAt at hu
 refine wpAny_call (codeAny_of_tree ?_)
 show wpAny _ A.in1 (callAny (.ref u) ⟨rest, []⟩) _ _ _
 simp only [callAny]
 refine wpAny_bind (wpAny_load hu ?_)
 simp only [kxs_mw, show (Value.type "method-wrapper" == Value.type "method" || Value.type "method-wrapper" == Value.type "builtin_function_or_method" || Value.type "method-wrapper" == Value.type "method-wrapper") = true by decide, if_true]
 refine KFB.if_so (by decide) ?_
 refine wpAny_bind (check_bound_init FB.toExcCallFacts (X _ _ hC) hx rfl ?_)
 refine wpAny_bind (wpAny_pure (wpAny_pure ?_))
 refine ⟨plainId_quiet FB.init.plain _, codeAny_builtin FB.initEntry ?_⟩
 exact exc_init_tree (cls := .ref C) (t0 := t0) (dv := none) (c2 := .none) (c3 := .none) (b4 := .bool false) hx hz fun h' k e _ => hq h' _ k e
theorem sup_stmt {x C fI L : Addr} {t0 : Addr} {qual : Str} {body : List Stmt} {scope : Scope} {cda cc : Addr} {oc cl ccl : Value} {od cld cdd : Option Addr} {osl csl ccs : Array (Option Value)} {fd : FuncData} {vs : Array Value} {file : Str} {tf : Tok} {ar : Arg}
   {m : Str → Option Value} {p0 p1 p2 p3 p4 p5 : Pos} {tx : Str} {j} {Q : Flow → Shared → Prop}
   (T : XCls prog K C) (X : K.In s.heap) (P : XTop s.heap) (hn : s.heap.Ns L m) (hv : m ar.arg = some (.ref x)) (hx : s.heap.get? x = some (HandSPX.excO C t0)) (hL : L ≠ x)
   (hf : K.lookup fI = some ⟨oc, od, .func fd, osl⟩) (hp : (fd.params.posonlyargs ++ fd.params.args).head? = some ar) (hcode : K.lookup cda = some ⟨ccl, cdd, .fields vs, ccs⟩) (hvs : vs[2]? = some (.str file tf)) (hfile : ((prog.main.file : Str) == file) = true)
   (hcell : K.lookup cc = some ⟨cl, cld, .cell (some (.ref C)), csl⟩)
   (hks : scope.names.lookup ("super" : Str) = some .globalImplicit) (hkc : scope.names.lookup ("__class__" : Str) = some .free) (hka : scope.names.lookup ar.arg = some .local) (hk : scope.kind = .function)
   (hq : ∀ h' tk t1, (∀ b o, b ≠ x → s.heap.get? b = some o → h'.get? b = some o) → h'.get? x = some (HandSPX.excO C t1) → Q .next { s with heap := h', toks := tk })
   {pl : Sem Bool}
   (he : eval (.Call (.Attribute (.Call (.Name "super" p0) [] [] p1) "__init__" p2) [.Constant (.str tx) j p3] [] p4) (ksEnv qual scope L fI (.ref cda) cc) = (do
     let ov ← attributeBase (.Call (.Name "super" p0) [] [] p1) "__init__" (ksEnv qual scope L fI (.ref cda) cc) (eval (.Call (.Name "super" p0) [] [] p1) (ksEnv qual scope L fI (.ref cda) cc))
     standAt p2.atName
     let (f, first) ← holding [ov] (getMethod ov "__init__" pl)
     callWith p4 f first (backTo p4 (starEach [.Constant (.str tx) j p3] (ksEnv qual scope L fI (.ref cda) cc))) []) := by rfl)
   (hi : interactive (ksEnv qual scope L fI (.ref cda) cc) = false := by rfl)
   (hw : swapsWith (.Call (.Attribute (.Call (.Name "super" p0) [] [] p1) "__init__" p2) [.Constant (.str tx) j p3] [] p4) none p5.line (ksEnv qual scope L fI (.ref cda) cc) = pure false := by rfl) :
   _root_.PySem.wpAt (model prog w) A (.func body (ksEnv qual scope L fI (.ref cda) cc)) (exec (.Expr (.Call (.Attribute (.Call (.Name "super" p0) [] [] p1) "__init__" p2) [.Constant (.str tx) j p3] [] p4) p5) (ksEnv qual scope L fI (.ref cda) cc)) Q E s := by
 obtain ⟨nm, q, N, bs, bm, sn, sub, ab, col, dd, k0, k1, k2, k3, k5, hC, hbm⟩ := T.cls
 have hcl : clsIn K C = some { name := nm, bases := bs, mro := .ref C :: bm, ns := N, qualname := q, hasDict := true, slotNames := sn, subclasses := sub, abstract := ab, collection := col, hasDel := false } := by unfold clsIn; rw [hC] <;> rfl
 have hmC : mroIn K C (.ref C) = some true := by unfold mroIn; rw [hcl, Option.bind_some, if_neg (by show ¬ (List.isEmpty (Value.ref C :: bm) = true); simp)]; simp
 have hD1 := X _ _ hC
 obtain ⟨hh, g, d, t, os⟩ := s
 refine ks_wpAt_Expr_any (ks_wpAt_MethodCall ?_ he) hi hw
 refine ks_wpAt_super_base (env := ksEnv qual scope L fI (.ref cda) cc) hks hkc (by decide) rfl (X _ _ hf) rfl hp rfl (X _ _ hcode) rfl hvs hfile T.top ?_
 obtain ⟨mg, hg⟩ := P.g
 obtain ⟨mb, hb, hbt⟩ := P.b
 refine ks_loadName_global hk hks (loadGlobal_builtin (env := ksEnv qual scope L fI (.ref cda) cc) hg (mg_none_of X hg T.sg) hb ((hbt _ (by decide +kernel)).trans (show bootBuiltins "super" = some (.type "super") from by decide +kernel)) ⟨rfl, ?_⟩)
 refine wpAny_loadName_free hk hkc rfl ⟨_, X _ _ hcell, rfl⟩ ?_
 refine wpAny_loadName_local hk hka hn hv ?_
 refine ks_wpAny_isType_cls hD1 rfl ⟨rfl, ?_⟩
 refine ks_wpAny_call_super hD1 rfl hx rfl (fun c e => nomatch e) (looks_mroIn X hmC) (fun h1 e1 kk1 => ?_)
 have k1' : ∀ b o, hh.get? b = some o → h1.get? b = some o := kk1
 have X1 : K.In h1 := X.keeps k1'
 have hI : Looks (model prog w) h1 (isInstance (.ref x) (.type "LookupError")) true := by
   have I : InstAt h1 x (HandSPX.excO C t0) C none := ⟨k1' _ _ hx, rfl, rfl, trivial⟩
   refine I.type.andThen (looks_mroIn X1 ?_)
   unfold mroIn
   rw [hcl, Option.bind_some, if_neg (by show ¬ (List.isEmpty (Value.ref C :: bm) = true); simp)]
   show some ((Value.ref C :: bm).contains (.type "LookupError")) = some true
   rw [List.contains_cons, excTail_contains "LookupError" _ hbm]
   rfl
 have hxC : x ≠ C := fun z => by
   rw [z] at hx
   have y := hD1.symm.trans hx
   cases y
 have hsup := T.sup
 unfold ks_superIn at hsup
 rw [hcl] at hsup
 refine kxs_getMethod kxs_LookupError e1 (looks_opaque X1 T.opq) (l₀ := .ref C :: bm) (fun A Q E s k q => wpAny_bind ((looks_clsIn X1 hcl) A _ E s k (wpAny_pure q))) rfl X1 hsup hI hxC (by decide) ?_
 have k2' : ∀ b o, hh.get? b = some o → (h1.push (kxs_mw "LookupError.__init__" x)).get? b = some o := fun b o z => Heap.get?_push_of_some _ (k1' b o z)
 show wpAny _ _ (callWith p4 (.ref h1.objs.size) [] (backTo p4 (starEach [.Constant (.str tx) j p3] (ksEnv qual scope L fI (.ref cda) cc))) []) _ _ _
 refine kxs_callWith (i := "LookupError.__init__") (x := x) (by rfl) (evalArgs_plain ?_)
 refine spliced_cons ?_
 show wpAny _ _ (eval (.Constant (.str tx) j p3) (ksEnv qual scope L fI (.ref cda) cc)) _ _ _
 refine Calls.Constant_str (spliced_nil ?_)
 refine ⟨Heap.get?_push_at rfl rfl, ?_⟩
 refine call_mw (s := ⟨h1.push (kxs_mw "LookupError.__init__" x), g, d, _, os⟩) T (X.keeps k2') (k2' _ _ hx) (Heap.get?_push_at rfl rfl) (by show 1 ≤ sizeLine; rw [sizeLine_eq]; decide) fun h' t1 k3 e3 => ?_
 exact hq h' _ t1 (fun b o hb z => k3 b o hb (k2' b o z)) e3
end
end XL
end PySem
namespace PySem
namespace XL
open PySem.W PySem.Calls PyProof.Rows
structure Ps1 where
 (p0 p1 p2 p3 p4 p5 q1 q2 q3 q4 : Pos) (j : Nat)
structure Ps2 extends Ps1 where
 (r1 r2 r3 r4 : Pos)
abbrev supS (P : Ps1) (tx : Str) : Stmt := .Expr (.Call (.Attribute (.Call (.Name "super" P.p0) [] [] P.p1) "__init__" P.p2) [.Constant (.str tx) P.j P.p3] [] P.p4) P.p5
abbrev body1 (P : Ps1) (tx f : Str) : List Stmt := [supS P tx, .Assign [.Attribute (.Name "self" P.q1) f P.q2] (.Name f P.q3) P.q4]
abbrev body2 (P : Ps2) (tx f f2 : Str) : List Stmt := [supS P.toPs1 tx, .Assign [.Attribute (.Name "self" P.q1) f P.q2] (.Name f P.q3) P.q4, .Assign [.Attribute (.Name "self" P.r1) f2 P.r2] (.Name f2 P.r3) P.r4]
abbrev args1 (a1 a2 : Pos) (f : Str) : Arguments := { posonlyargs := [], args := [{ arg := "self", annotation := none, pos := a1 }, { arg := f, annotation := none, pos := a2 }], vararg := none, kwonlyargs := [], kw_defaults := [], kwarg := none, defaults := [] }
abbrev args2 (a1 a2 a3 : Pos) (f f2 : Str) : Arguments := { posonlyargs := [], args := [{ arg := "self", annotation := none, pos := a1 }, { arg := f, annotation := none, pos := a2 }, { arg := f2, annotation := none, pos := a3 }], vararg := none, kwonlyargs := [], kw_defaults := [], kwarg := none, defaults := [] }
abbrev scope1 (f : Str) : Scope := { kind := .function, names := [(Str.ofString "self", .local), (f, .local), (Str.ofString "__class__", .free), (Str.ofString "super", .globalImplicit)], isGenerator := false, isCoroutine := false, more := [] }
abbrev scope2 (f f2 : Str) : Scope := { kind := .function, names := [(Str.ofString "self", .local), (f, .local), (f2, .local), (Str.ofString "__class__", .free), (Str.ofString "super", .globalImplicit)], isGenerator := false, isCoroutine := false, more := [] }
def EvOk (qual : Str) (scope : Scope) (fI : Addr) (P : Ps1) (tx : Str) : Prop := ∀ L cda cc : Addr, ∃ pl : Sem Bool,
 eval (.Call (.Attribute (.Call (.Name "super" P.p0) [] [] P.p1) "__init__" P.p2) [.Constant (.str tx) P.j P.p3] [] P.p4) (ksEnv qual scope L fI (.ref cda) cc) = (do
     let ov ← attributeBase (.Call (.Name "super" P.p0) [] [] P.p1) "__init__" (ksEnv qual scope L fI (.ref cda) cc) (eval (.Call (.Name "super" P.p0) [] [] P.p1) (ksEnv qual scope L fI (.ref cda) cc))
     standAt P.p2.atName
     let (f, first) ← holding [ov] (getMethod ov "__init__" pl)
     callWith P.p4 f first (backTo P.p4 (starEach [.Constant (.str tx) P.j P.p3] (ksEnv qual scope L fI (.ref cda) cc))) []) ∧
 interactive (ksEnv qual scope L fI (.ref cda) cc) = false ∧
 swapsWith (.Call (.Attribute (.Call (.Name "super" P.p0) [] [] P.p1) "__init__" P.p2) [.Constant (.str tx) P.j P.p3] [] P.p4) none P.p5.line (ksEnv qual scope L fI (.ref cda) cc) = pure false
structure InitEnd (h h' : Heap) (x C dx : Addr) (mm : Str → Option Value) : Prop where
 keep : ∀ b o, b ≠ x → h.get? b = some o → h'.get? b = some o
 obj : ∃ t1 : Addr, h'.get? x = some { cls := .ref C, dict := some dx, data := .fields #[.ref t1, .none, .none, .none, .bool false, .none] }
 dbig : h.objs.size ≤ dx
 dne : dx ≠ x
 ns : h'.Ns1 dx mm
def okF (f : Str) : Bool := !(f == ("self" : Str)) && !(f == ("super" : Str)) && !(f == ("__class__" : Str)) && !(f == ("__debug__" : Str))
theorem okF_of {f : Str} (h : okF f = true) : (f == ("self" : Str)) = false ∧ (f == ("super" : Str)) = false ∧ (f == ("__class__" : Str)) = false ∧ (f == ("__debug__" : Str)) = false := by
 unfold okF at h
 simp only [Bool.and_eq_true, Bool.not_eq_true'] at h
 exact ⟨h.1.1.1, h.1.1.2, h.1.2, h.2⟩
theorem flip {a b : Str} (h : (a == b) = false) : (b == a) = false := by
 have := beq_eq_false_iff_ne.mp h
 exact beq_eq_false_iff_ne.mpr (Ne.symm this)
section
variable {prog : Program} {w : World} {A : Around} {E : Value → Shared → Prop} {R : Result → Shared → Prop} {s : Shared} {K : Frag} {C fI x t0 : Addr} {qual tx f f2 : Str} {v v2 : Value}
theorem init1 {P : Ps1} {a1 a2 : Pos} {args : Args} (T : XCls prog K C) (Fn : XFn prog K C fI qual (args1 a1 a2 f) (body1 P tx f) (scope1 f)) (hf : okF f = true) (nof : findIn K (.ref C) f = some none) (ev : EvOk qual (scope1 f) fI P tx)
   (X : K.In s.heap) (Tp : XTop s.heap) (hx : s.heap.get? x = some (HandSPX.excO C t0)) (hnx : K.lookup x = none) (hroom : A.depth < recursionLimit)
   (hb : ∀ (kV doc pm : Value) (an : Option Addr) (cdv ct : Value) (cc : Addr), BindsTo s (ksFn "__init__" qual (args1 a1 a2 f) (body1 P tx f) (scope1 f) .none kV doc pm an cdv ct cc) args [("self", .ref x), (f, v)])
   (hq : ∀ h' tk dx, InitEnd s.heap h' x C dx (fun y => if y = f then some v else none) → R (.ok (.ret .none)) { s with heap := h', toks := tk }) :
   codeAny (model prog w) A (.call (.ref fI) args) R s := by
 obtain ⟨oc, od, kV, doc, pm, an, cda, ct, cc, osl, cl, ccl, cld, cdd, csl, ccs, vs, file, tf, ho, hcd, hcell, hcode, hvs, hfile⟩ := Fn.fn
 obtain ⟨n1, n2, n3, n4⟩ := okF_of hf
 have l1 : (scope1 f).names.lookup f = some .local := by simp [List.lookup, n1]
 have l2 : (scope1 f).names.lookup ("super" : Str) = some .globalImplicit := by simp [List.lookup, flip n2]; rfl
 have l3 : (scope1 f).names.lookup ("__class__" : Str) = some .free := by simp [List.lookup, flip n3]; rfl
 have ls : (scope1 f).names.lookup ("self" : Str) = some .local := by simp [List.lookup]
 have hnc : ∀ y ∈ (scope1 f).names, y.2 ≠ .cell := by
   intro y hy
   simp only [scope1, List.mem_cons, List.mem_nil_iff, or_false] at hy
   rcases hy with rfl | rfl | rfl | rfl <;> simp
 have hlo : ∀ y ∈ ([("self", .ref x), (f, v)] : List (Str × Value)), (scope1 f).names.lookup y.1 = some .local := by
   intro y hy
   simp only [List.mem_cons, List.mem_nil_iff, or_false] at hy
   rcases hy with rfl | rfl
   · exact ls
   · exact l1
 obtain ⟨nm, q, N, bs, bm, sn, sub, ab, col, dd, k0, k1, k2, k3, k5, hC, hbm⟩ := T.cls
 have hcl : clsIn K C = some { name := nm, bases := bs, mro := .ref C :: bm, ns := N, qualname := q, hasDict := true, slotNames := sn, subclasses := sub, abstract := ab, collection := col, hasDel := false } := by unfold clsIn; rw [hC] <;> rfl
 refine ks_codeAny_call_defAt (fd := ksFn "__init__" qual (args1 a1 a2 f) (body1 P tx f) (scope1 f) .none kV doc pm an (.ref cda) ct cc) (body := body1 P tx f) (binds := [("self", .ref x), (f, v)]) hroom (X _ _ ho) rfl Tp.nolimit (codeRec_of X hcd) rfl (hb _ _ _ _ _ _ _) hnc hlo (fun h₁ hns hk₁ => ?_)
 have hLx : s.heap.objs.size ≠ x := Nat.ne_of_gt (Heap.lt_size hx)
 have ms : (fun y => ([("self", Value.ref x), (f, v)] : List (Str × Value)).reverse.lookup y) "self" = some (.ref x) := by simp [List.lookup, flip n1]
 have mf : (fun y => ([("self", Value.ref x), (f, v)] : List (Str × Value)).reverse.lookup y) f = some v := by simp [List.lookup]
 obtain ⟨pl, he, hi, hw⟩ := ev s.heap.objs.size cda cc
 refine ks_wpAt_execs_cons (sup_stmt (s := { s with heap := h₁, toks := s.toks + 2 }) (ar := { arg := "self", annotation := none, pos := a1 }) (t0 := t0) T (X.keeps hk₁) (Tp.keeps hk₁) hns ms (hk₁ _ _ hx) hLx ho rfl hcode hvs hfile hcell l2 l3 ls rfl (fun h₂ tk₂ t1 k₂ e₂ => ?_) he hi hw)
 refine wpAt_of_wpAny ?_
 have kk : ∀ b o, b ≠ x → s.heap.get? b = some o → h₂.get? b = some o := fun b o hb z => k₂ b o hb (hk₁ b o z)
 have X₂ : K.In h₂ := fun a o e => kk a o (fun z => by
   subst z
   rw [hnx] at e
   cases e) (X a o e)
 have hns₂ : h₂.Ns s.heap.objs.size (fun y => ([("self", Value.ref x), (f, v)] : List (Str × Value)).reverse.lookup y) := hns.at fun o z => k₂ _ o hLx z
 refine wpAny_execs_cons (plainObj_wpAny_Assign_Attribute ?_)
 refine ESX.ldL (v := v) hns₂ mf (ESX.ldL (v := .ref x) hns₂ ms ?_ rfl ls) rfl l1 n4
 refine set_plain X₂ (ox := HandSPX.excO C t1) (od := none) ⟨e₂, rfl, rfl, trivial⟩ T.sa ?_
 refine osa_new X₂ e₂ hcl (show excTail lkT (.ref C :: bm) = true from hbm) rfl nof (fun h₃ tk₃ dx k₃ dn dne hx₃ hn₃ => ?_)
 refine wpAny_execs_nil ?_
 have z1 : s.heap.objs.size < h₂.objs.size := hns₂.lt
 exact hq h₃ tk₃ dx ⟨fun b o hb e => k₃ b o hb (kk b o hb e), ⟨t1, hx₃⟩, Nat.le_of_lt (Nat.lt_of_lt_of_le z1 dn), dne, hn₃⟩
theorem init2 {P : Ps2} {a1 a2 a3 : Pos} {args : Args} (T : XCls prog K C) (Fn : XFn prog K C fI qual (args2 a1 a2 a3 f f2) (body2 P tx f f2) (scope2 f f2)) (hf : okF f = true) (hf2 : okF f2 = true) (h12 : (f == f2) = false) (nof : findIn K (.ref C) f = some none) (nof2 : findIn K (.ref C) f2 = some none) (ev : EvOk qual (scope2 f f2) fI P.toPs1 tx)
   (X : K.In s.heap) (Tp : XTop s.heap) (hx : s.heap.get? x = some (HandSPX.excO C t0)) (hnx : K.lookup x = none) (hroom : A.depth < recursionLimit)
   (hb : ∀ (kV doc pm : Value) (an : Option Addr) (cdv ct : Value) (cc : Addr), BindsTo s (ksFn "__init__" qual (args2 a1 a2 a3 f f2) (body2 P tx f f2) (scope2 f f2) .none kV doc pm an cdv ct cc) args [("self", .ref x), (f, v), (f2, v2)])
   (hq : ∀ h' tk dx, InitEnd s.heap h' x C dx (fun y => if y = f2 then some v2 else if y = f then some v else none) → R (.ok (.ret .none)) { s with heap := h', toks := tk }) :
   codeAny (model prog w) A (.call (.ref fI) args) R s := by
 obtain ⟨oc, od, kV, doc, pm, an, cda, ct, cc, osl, cl, ccl, cld, cdd, csl, ccs, vs, file, tf, ho, hcd, hcell, hcode, hvs, hfile⟩ := Fn.fn
 obtain ⟨n1, n2, n3, n4⟩ := okF_of hf
 obtain ⟨m1, m2, m3, m4⟩ := okF_of hf2
 have l1 : (scope2 f f2).names.lookup f = some .local := by simp [List.lookup, n1]
 have l1' : (scope2 f f2).names.lookup f2 = some .local := by simp [List.lookup, m1, flip h12]
 have l2 : (scope2 f f2).names.lookup ("super" : Str) = some .globalImplicit := by simp [List.lookup, flip n2, flip m2]; rfl
 have l3 : (scope2 f f2).names.lookup ("__class__" : Str) = some .free := by simp [List.lookup, flip n3, flip m3]; rfl
 have ls : (scope2 f f2).names.lookup ("self" : Str) = some .local := by simp [List.lookup]
 have hnc : ∀ y ∈ (scope2 f f2).names, y.2 ≠ .cell := by
   intro y hy
   simp only [scope1, List.mem_cons, List.mem_nil_iff, or_false] at hy
   rcases hy with rfl | rfl | rfl | rfl | rfl <;> simp
 have hlo : ∀ y ∈ ([("self", .ref x), (f, v), (f2, v2)] : List (Str × Value)), (scope2 f f2).names.lookup y.1 = some .local := by
   intro y hy
   simp only [List.mem_cons, List.mem_nil_iff, or_false] at hy
   rcases hy with rfl | rfl | rfl
   · exact ls
   · exact l1
   · exact l1'
 obtain ⟨nm, q, N, bs, bm, sn, sub, ab, col, dd, k0, k1, k2, k3, k5, hC, hbm⟩ := T.cls
 have hcl : clsIn K C = some { name := nm, bases := bs, mro := .ref C :: bm, ns := N, qualname := q, hasDict := true, slotNames := sn, subclasses := sub, abstract := ab, collection := col, hasDel := false } := by unfold clsIn; rw [hC] <;> rfl
 refine ks_codeAny_call_defAt (fd := ksFn "__init__" qual (args2 a1 a2 a3 f f2) (body2 P tx f f2) (scope2 f f2) .none kV doc pm an (.ref cda) ct cc) (body := body2 P tx f f2) (binds := [("self", .ref x), (f, v), (f2, v2)]) hroom (X _ _ ho) rfl Tp.nolimit (codeRec_of X hcd) rfl (hb _ _ _ _ _ _ _) hnc hlo (fun h₁ hns hk₁ => ?_)
 have hLx : s.heap.objs.size ≠ x := Nat.ne_of_gt (Heap.lt_size hx)
 have ms : (fun y => ([("self", Value.ref x), (f, v), (f2, v2)] : List (Str × Value)).reverse.lookup y) "self" = some (.ref x) := by simp [List.lookup, flip n1, flip m1]
 have mf : (fun y => ([("self", Value.ref x), (f, v), (f2, v2)] : List (Str × Value)).reverse.lookup y) f = some v := by simp [List.lookup, h12]
 have mf2 : (fun y => ([("self", Value.ref x), (f, v), (f2, v2)] : List (Str × Value)).reverse.lookup y) f2 = some v2 := by simp [List.lookup]
 obtain ⟨pl, he, hi, hw⟩ := ev s.heap.objs.size cda cc
 refine ks_wpAt_execs_cons (sup_stmt (s := { s with heap := h₁, toks := s.toks + 3 }) (ar := { arg := "self", annotation := none, pos := a1 }) (t0 := t0) T (X.keeps hk₁) (Tp.keeps hk₁) hns ms (hk₁ _ _ hx) hLx ho rfl hcode hvs hfile hcell l2 l3 ls rfl (fun h₂ tk₂ t1 k₂ e₂ => ?_) he hi hw)
 refine wpAt_of_wpAny ?_
 have kk : ∀ b o, b ≠ x → s.heap.get? b = some o → h₂.get? b = some o := fun b o hb z => k₂ b o hb (hk₁ b o z)
 have X₂ : K.In h₂ := fun a o e => kk a o (fun z => by
   subst z
   rw [hnx] at e
   cases e) (X a o e)
 have hns₂ : h₂.Ns s.heap.objs.size (fun y => ([("self", Value.ref x), (f, v), (f2, v2)] : List (Str × Value)).reverse.lookup y) := hns.at fun o z => k₂ _ o hLx z
 refine wpAny_execs_cons (plainObj_wpAny_Assign_Attribute ?_)
 refine ESX.ldL (v := v) hns₂ mf (ESX.ldL (v := .ref x) hns₂ ms ?_ rfl ls) rfl l1 n4
 refine set_plain X₂ (ox := HandSPX.excO C t1) (od := none) ⟨e₂, rfl, rfl, trivial⟩ T.sa ?_
 refine osa_new X₂ e₂ hcl (show excTail lkT (.ref C :: bm) = true from hbm) rfl nof (fun h₃ tk₃ dx k₃ dn dne hx₃ hn₃ => ?_)
 have z1 : s.heap.objs.size < h₂.objs.size := hns₂.lt
 have hns₃ : h₃.Ns s.heap.objs.size (fun y => ([("self", Value.ref x), (f, v), (f2, v2)] : List (Str × Value)).reverse.lookup y) := hns₂.at fun o z => k₃ _ o hLx z
 have X₃ : K.In h₃ := fun a o e => k₃ a o (fun z => by
   subst z
   rw [hnx] at e
   cases e) (X₂ a o e)
 refine wpAny_execs_cons (plainObj_wpAny_Assign_Attribute ?_)
 refine ESX.ldL (v := v2) hns₃ mf2 (ESX.ldL (v := .ref x) hns₃ ms ?_ rfl ls) rfl l1' m4
 have hwi : Within (fun y => if y = f then some v else none) [f] := fun y hy => by
   by_cases e : y = f
   · rw [e]; exact List.mem_cons_self ..
   · exact absurd (if_neg e) hy
 obtain ⟨oD, _, _, hoD, _, _⟩ := hn₃.count hwi
 refine set_plain X₃ (ox := { cls := .ref C, dict := some dx, data := .fields #[.ref t1, .none, .none, .none, .bool false, .none] }) (od := some oD) ⟨hx₃, rfl, rfl, hoD⟩ T.sa ?_
 refine osa_old X₃ hx₃ hn₃ hwi (by show 1 ≤ 1000; decide) hcl (show excTail lkT (.ref C :: bm) = true from hbm) rfl nof2 (fun h₄ tk₄ k₄ hn₄ => ?_)
 refine wpAny_execs_nil ?_
 have nd : ∀ {b : Addr} {o : Obj}, s.heap.get? b = some o → b ≠ dx := fun {b o} q => Nat.ne_of_lt (Nat.lt_of_lt_of_le (Heap.lt_size q) (Nat.le_of_lt (Nat.lt_of_lt_of_le z1 dn)))
 exact hq h₄ tk₄ dx ⟨fun b o hb e => k₄ b o (nd e) (k₃ b o hb (kk b o hb e)), ⟨t1, k₄ _ _ (Ne.symm dne) hx₃⟩, Nat.le_of_lt (Nat.lt_of_lt_of_le z1 dn), dne, hn₄⟩
structure OwnMade (h h' : Heap) (e C d : Addr) (mm : Str → Option Value) : Prop where
 keep : ∀ b o, h.get? b = some o → h'.get? b = some o
 new : h.objs.size ≤ e
 obj : ∃ t1 : Addr, h'.get? e = some { cls := .ref C, dict := some d, data := .fields #[.ref t1, .none, .none, .none, .bool false, .none] }
 dbig : h.objs.size ≤ d
 dne : d ≠ e
 ns : h'.Ns1 d mm
theorem made {params : Arguments} {body : List Stmt} {scope : Scope} {rest : List Value} {kw : List (Str × Value)} {mm : Str → Option Value} (T : XCls prog K C) (Fn : XFn prog K C fI qual params body scope) (X : K.In s.heap) (Tp : XTop s.heap) (hz : rest.length ≤ sizeLine)
   (hi : ∀ (s' : Shared) (A' : Around) (x t0 : Addr) (R' : Result → Shared → Prop), K.In s'.heap → XTop s'.heap → s'.heap.get? x = some (HandSPX.excO C t0) → K.lookup x = none → A'.depth ≤ A.depth + 1 →
     (∀ h' tk dx, InitEnd s'.heap h' x C dx mm → R' (.ok (.ret .none)) { s' with heap := h', toks := tk }) → codeAny (model prog w) A' (.call (.ref fI) ⟨.ref x :: rest, kw⟩) R' s')
   (hq : ∀ h' tk e d, OwnMade s.heap h' e C d mm → R (.ok (.ret (.ref e))) { s with heap := h', toks := tk }) :
   codeAny (model prog w) A (.call (.ref C) ⟨rest, kw⟩) R s := by
 obtain ⟨nm, q, N, bs, bm, sn, sub, ab, col, dd, k0, k1, k2, k3, k5, hC, hbm⟩ := T.cls
 obtain ⟨hp, g, dr, tk, os⟩ := s
 have k : ∀ b o, hp.get? b = some o → ((hp.push (kdv_tup rest)).push (HandSPX.excO C hp.objs.size)).get? b = some o := fun b o e => Heap.get?_push_of_some _ (Heap.get?_push_of_some _ e)
 have hget : ((hp.push (kdv_tup rest)).push (HandSPX.excO C hp.objs.size)).get? (hp.objs.size + 1) = some (HandSPX.excO C hp.objs.size) := by heap_get
 have hnx : K.lookup (hp.objs.size + 1) = none := by
   cases e : K.lookup (hp.objs.size + 1) with
   | none => rfl
   | some o =>
     have z : hp.get? (hp.objs.size + 1) = some o := X _ _ e
     exact absurd (Nat.lt_of_succ_lt (Heap.lt_size z)) (Nat.lt_irrefl _)
 refine call_ownK F.excBase_LookupError (fun Y => excTail_contains Y bm hbm) (X _ _ hC) (looks_findIn X Fn.iC) (fun self => bind_fn X self Fn.tI) hz ?_
 refine hi ⟨(hp.push (kdv_tup rest)).push (HandSPX.excO C hp.objs.size), g, dr, tk, os⟩ _ (hp.objs.size + 1) hp.objs.size _ (X.keeps k) (Tp.keeps k) hget hnx (Nat.le_refl _) fun h' tk' dx IE => ?_
 have old : ∀ b o, hp.get? b = some o → h'.get? b = some o := fun b o e => IE.keep b o (Nat.ne_of_lt (Nat.lt_succ_of_lt (Heap.lt_size e))) (k b o e)
 have z : hp.objs.size + 1 + 1 ≤ dx := by
   have q := IE.dbig
   rw [show ({ heap := (hp.push (kdv_tup rest)).push (HandSPX.excO C hp.objs.size), gens := g, drawn := dr, toks := tk, os := os } : Shared).heap.objs.size = hp.objs.size + 1 + 1 from by rw [Heap.size_push, Heap.size_push]] at q
   exact q
 exact ⟨rfl, hq h' tk' (hp.objs.size + 1) dx ⟨old, Nat.le_succ _, IE.obj, Nat.le_trans (Nat.le_trans (Nat.le_succ _) (Nat.le_succ _)) z, IE.dne, IE.ns⟩⟩
end
end XL
end PySem
namespace L2
open PySem PySem.Spec PyProof.Rows
section
variable {X : Cx} {pins : List (Addr × Obj)} {σ : St} {H : Hp} {s : Shared}
theorem Inv.xtop (I : Inv X pins σ H s) : XL.XTop s.heap :=
 ⟨⟨_, I.mod.glob.keeps I.bk⟩, let ⟨mb, h1, h2⟩ := I.mod.blt; ⟨mb, h1.keeps I.bk, h2⟩, I.nolimit⟩
end
theorem pe_gref {X : Cx} {x : Str} {C : Addr} {pos : Pos} (hg : Gl X x) (hm : X.mg x = some (.ref C)) (hd : (x == ("__debug__" : Str)) = false := by decide) : PE X (.Name x pos) (tC (.ref C)) := pe_glob hg hm rfl hd
def XMk (P : Program) (w : World) (K : PySem.W.Frag) (C : Addr) (n : Nat) (ks : List Str) (gV : List V → List V → List (Str × V)) : Prop :=
 ∀ (A : Around) (s : Shared) (R : Result → Shared → Prop) (us ws : List Value) (vs zs : List V), Vals vs us → Vals zs ws → us.length = n → ws.length = ks.length → K.In s.heap → XL.XTop s.heap → A.depth + 2 < recursionLimit →
   (∀ h' tk e d mm, XL.OwnMade s.heap h' e C d mm → (∀ f, RelO ((gV vs zs).lookup f) (mm f)) → R (.ok (.ret (.ref e))) { s with heap := h', toks := tk }) →
   codeAny (model P w) A (.call (.ref C) ⟨us, ks.zip ws⟩) R s
section
variable {X : Cx} {n k : Nat} {C : Addr} {ks : List Str} {x : Str} {p pos : Pos} {e : Expr} {es : List Expr} {kws : List Keyword} {t tk : TA} {gV : List V → List V → List (Str × V)}
end
section
variable {P : Program} {w : World} {K : PySem.W.Frag} {C fI : Addr} {qual tx f f2 : Str}
open PySem.XL in
theorem xmk1 {Ps : Ps1} {a1 a2 : Pos} (T : XCls P K C) (Fn : XFn P K C fI qual (args1 a1 a2 f) (body1 Ps tx f) (scope1 f)) (hf : okF f = true) (nof : PySem.W.findIn K (.ref C) f = some none) (ev : EvOk qual (scope1 f) fI Ps tx)
   (hb : ∀ (s : Shared) (x : Addr) (v : Value) (kV doc pm : Value) (an : Option Addr) (cdv ct : Value) (cc : Addr), BindsTo s (PySem.W.ksFn "__init__" qual (args1 a1 a2 f) (body1 Ps tx f) (scope1 f) .none kV doc pm an cdv ct cc) ⟨[.ref x, v], []⟩ [("self", .ref x), (f, v)]) :
   XMk P w K C 1 [] (fun vs _ => [(f, vs.headD .non)]) := by
 intro A s R us ws vs zs r rz l1 l2 X Tp dp hq
 cases r with
 | nil => cases l1
 | @cons v u vs' us' ru rr =>
   cases rr with
   | cons _ _ => cases l1
   | nil =>
     show codeAny _ _ (.call (.ref C) ⟨[u], []⟩) _ _
     refine made (mm := fun y => if y = f then some u else none) T Fn X Tp (by show 1 ≤ sizeLine; rw [sizeLine_eq]; decide) (fun s' A' x t0 R' X' Tp' hx hnx hA hq' => ?_) fun h' tk e d O => hq h' tk e d _ O fun g => ?_
     · exact init1 T Fn hf nof ev X' Tp' hx hnx (by omega) (hb s' x u) hq'
     · rw [lookup_put]
       by_cases e : g = f
       · rw [if_pos e, if_pos e]; exact ru
       · rw [if_neg e, if_neg e]; exact True.intro
open PySem.XL in
theorem xmk1k {Ps : Ps1} {a1 a2 : Pos} (T : XCls P K C) (Fn : XFn P K C fI qual (args1 a1 a2 f) (body1 Ps tx f) (scope1 f)) (hf : okF f = true) (nof : PySem.W.findIn K (.ref C) f = some none) (ev : EvOk qual (scope1 f) fI Ps tx)
   (hb : ∀ (s : Shared) (x : Addr) (v : Value) (kV doc pm : Value) (an : Option Addr) (cdv ct : Value) (cc : Addr), BindsTo s (PySem.W.ksFn "__init__" qual (args1 a1 a2 f) (body1 Ps tx f) (scope1 f) .none kV doc pm an cdv ct cc) ⟨[.ref x], [(f, v)]⟩ [("self", .ref x), (f, v)]) :
   XMk P w K C 0 [f] (fun _ zs => [(f, zs.headD .non)]) := by
 intro A s R us ws vs zs r rz l1 l2 X Tp dp hq
 cases r with
 | cons _ _ => cases l1
 | nil =>
   cases rz with
   | nil => cases l2
   | @cons v u vs' us' ru rr =>
     cases rr with
     | cons _ _ => cases l2
     | nil =>
       show codeAny _ _ (.call (.ref C) ⟨[], [(f, u)]⟩) _ _
       refine made (mm := fun y => if y = f then some u else none) T Fn X Tp (by show 0 ≤ sizeLine; omega) (fun s' A' x t0 R' X' Tp' hx hnx hA hq' => ?_) fun h' tk e d O => hq h' tk e d _ O fun g => ?_
       · exact init1 T Fn hf nof ev X' Tp' hx hnx (by omega) (hb s' x u) hq'
       · rw [lookup_put]
         by_cases e : g = f
         · rw [if_pos e, if_pos e]; exact ru
         · rw [if_neg e, if_neg e]; exact True.intro
theorem rel2 {v v2 : V} {u u2 : Value} (r : RelV v u) (r2 : RelV v2 u2) (g : Str) : RelO (([(f2, v2), (f, v)] : List (Str × V)).lookup g) (if g = f2 then some u2 else if g = f then some u else none) := by
 rw [lookup_put]
 by_cases e : g = f2
 · rw [if_pos e, if_pos e]; exact r2
 · rw [if_neg e, if_neg e, lookup_put]
   by_cases e' : g = f
   · rw [if_pos e', if_pos e']; exact r
   · rw [if_neg e', if_neg e']; exact True.intro
open PySem.XL in
theorem xmk2 {Ps : Ps2} {a1 a2 a3 : Pos} (T : XCls P K C) (Fn : XFn P K C fI qual (args2 a1 a2 a3 f f2) (body2 Ps tx f f2) (scope2 f f2)) (hf : okF f = true) (hf2 : okF f2 = true) (h12 : (f == f2) = false) (nof : PySem.W.findIn K (.ref C) f = some none) (nof2 : PySem.W.findIn K (.ref C) f2 = some none) (ev : EvOk qual (scope2 f f2) fI Ps.toPs1 tx)
   (hb : ∀ (s : Shared) (x : Addr) (v v2 : Value) (kV doc pm : Value) (an : Option Addr) (cdv ct : Value) (cc : Addr), BindsTo s (PySem.W.ksFn "__init__" qual (args2 a1 a2 a3 f f2) (body2 Ps tx f f2) (scope2 f f2) .none kV doc pm an cdv ct cc) ⟨[.ref x, v, v2], []⟩ [("self", .ref x), (f, v), (f2, v2)]) :
   XMk P w K C 2 [] (fun vs _ => [(f2, vs.getD 1 .non), (f, vs.getD 0 .non)]) := by
 intro A s R us ws vs zs r rz l1 l2 X Tp dp hq
 cases r with
 | nil => cases l1
 | @cons v u vs' us' ru rr =>
   cases rr with
   | nil => cases l1
   | @cons v2 u2 vs' us' ru2 rr =>
     cases rr with
     | cons _ _ => cases l1
     | nil =>
       show codeAny _ _ (.call (.ref C) ⟨[u, u2], []⟩) _ _
       refine made (mm := fun y => if y = f2 then some u2 else if y = f then some u else none) T Fn X Tp (by show 2 ≤ sizeLine; rw [sizeLine_eq]; decide) (fun s' A' x t0 R' X' Tp' hx hnx hA hq' => ?_) fun h' tk e d O => hq h' tk e d _ O fun g => rel2 ru ru2 g
       exact init2 T Fn hf hf2 h12 nof nof2 ev X' Tp' hx hnx (by omega) (hb s' x u u2) hq'
open PySem.XL in
theorem xmk2k {Ps : Ps2} {a1 a2 a3 : Pos} (T : XCls P K C) (Fn : XFn P K C fI qual (args2 a1 a2 a3 f f2) (body2 Ps tx f f2) (scope2 f f2)) (hf : okF f = true) (hf2 : okF f2 = true) (h12 : (f == f2) = false) (nof : PySem.W.findIn K (.ref C) f = some none) (nof2 : PySem.W.findIn K (.ref C) f2 = some none) (ev : EvOk qual (scope2 f f2) fI Ps.toPs1 tx)
   (hb : ∀ (s : Shared) (x : Addr) (v v2 : Value) (kV doc pm : Value) (an : Option Addr) (cdv ct : Value) (cc : Addr), BindsTo s (PySem.W.ksFn "__init__" qual (args2 a1 a2 a3 f f2) (body2 Ps tx f f2) (scope2 f f2) .none kV doc pm an cdv ct cc) ⟨[.ref x], [(f2, v2), (f, v)]⟩ [("self", .ref x), (f, v), (f2, v2)]) :
   XMk P w K C 0 [f2, f] (fun _ zs => [(f2, zs.getD 0 .non), (f, zs.getD 1 .non)]) := by
 intro A s R us ws vs zs r rz l1 l2 X Tp dp hq
 cases r with
 | cons _ _ => cases l1
 | nil =>
 cases rz with
 | nil => cases l2
 | @cons v2 u2 vs' us' ru2 rr =>
   cases rr with
   | nil => cases l2
   | @cons v u vs' us' ru rr =>
     cases rr with
     | cons _ _ => cases l2
     | nil =>
       show codeAny _ _ (.call (.ref C) ⟨[], [(f2, u2), (f, u)]⟩) _ _
       refine made (mm := fun y => if y = f2 then some u2 else if y = f then some u else none) T Fn X Tp (by show 0 ≤ sizeLine; omega) (fun s' A' x t0 R' X' Tp' hx hnx hA hq' => ?_) fun h' tk e d O => hq h' tk e d _ O fun g => rel2 ru ru2 g
       exact init2 T Fn hf hf2 h12 nof nof2 ev X' Tp' hx hnx (by omega) (hb s' x u u2) hq'
end
structure XAsk (K : PySem.W.Frag) (D : Addr) : Prop where
 hg : PySem.W.findIn K (.ref D) "__getattribute__" = some (some (.builtin "BaseException.__getattribute__"))
 hk : PySem.W.findIn K (.ref D) "__getattr__" = some none
 hs : PySem.W.subIn K (.ref D) (.type "BaseException") = some true
 hd : PySem.W.hasDictIn K D = true
 ha : PySem.W.findIn K (.ref D) "__class__" = some (some (.builtin "object.__class__"))
 hn : PySem.W.specialIn K (.builtin "object.__class__") "__get__" = some (some (.builtin "getset_descriptor.__get__"))
 ht : PySem.W.takesIn K (.builtin "object.__class__") = some true
 hm : PySem.W.mroIn K D (.type "object") = some true
section
variable {X : Cx} {pins : List (Addr × Obj)} {σ : St} {H : Hp} {s : Shared}
end
end L2
namespace L2
open PySem PySem.Spec PyProof.Rows
def tXmk (C : Addr) (n : Nat) (gV : List V → List V → List (Str × V)) (ta : TA) : L2.St → Hp → XK → Prop := fun σ H Q => ta σ H fun vs H1 => vs.length = n ∧ ∀ d, H1 d = none → Q (.ref C) (some d) (upd H1 d (.xd (gV vs [])))
theorem pmk_x {X : Cx} {x : Str} {C : Addr} {n k : Nat} {e : Expr} {es : List Expr} {ta : TA} {p pos : Pos} {gV : List V → List V → List (Str × V)} (M : XMk X.prog X.w X.K C n [] gV) (hr : Room k X.A) (hg : Gl X x) (hm : X.mg x = some (.ref C)) (kp : PySem.W.keepIn X.K (.ref C) = true) (rs : Raises X (.ref C)) (ha : PA X (e :: es) ta)
   (hdb : (x == ("__debug__" : Str)) = false := by decide) (he : starEach (e :: es) X.env = (false, eval e X.env) :: starEach es X.env := by rfl) (hpl : (backTo pos (starEach es X.env)).any (·.1) = false := by rfl) :
   PMk X (.Call (.Name x p) (e :: es) [] pos) (tXmk C n gV ta) := by
 intro pins s σ H Q I h
 refine wpAny_Call_Name_kw (ld_glob I hg hm ?_ hdb)
 refine PySem.W.callWith_K (h₀ := X.base) I.ok.mod.kin kp (thn (ha.run pos pins s σ H _ I h) fun us s1 ⟨vs, H1, I1, r1, l1, q1⟩ => ⟨I1.kIn, ?_⟩) he hpl
 show wpAny _ _ (call (.ref C) us) _ _ _
 refine wpAny_call (M _ s1 _ us [] vs [] r1 .nil (r1.length.symm.trans l1) rfl I1.kIn I1.xtop (by have := hr.dp; omega) fun h' tk' e' d mm O rel => ?_)
 obtain ⟨hp, g, dr, tk, os⟩ := s1
 obtain ⟨t1, hoe⟩ := O.obj
 obtain ⟨G', g1, g2⟩ := restrict h' fun b => decide (b ≠ e')
 have gk : ∀ b, b ≠ e' → G'.get? b = h'.get? b := fun b hb => g1 b (decide_eq_true hb)
 have ge : G'.get? e' = none := g2 e' (by simp)
 have old : ∀ b o, hp.get? b = some o → G'.get? b = some o := fun b o q => (gk b (Nat.ne_of_lt (Nat.lt_of_lt_of_le (Heap.lt_size q) O.new))).trans (O.keep b o q)
 have ob : ObjOk X.prog X.w (upd H1 d (.xd (gV vs []))) G' d (.xd (gV vs [])) := ⟨_, O.ns.at (fun o q => (gk d O.dne).trans q), rel⟩
 have J : Inv X pins σ (upd H1 d (.xd (gV vs []))) ⟨G', g, dr, tk', os⟩ := I1.laid (t' := tk') old O.dbig ob
 refine ⟨e', _, _, ⟨G', g, dr, tk', os⟩, _, .ref C, some d, rfl, J, fun b o q => ?_, ge, hoe, ⟨rfl, rfl⟩, rfl, rfl, ?_, rfl, I1.bare, rs, q1 d (I1.hok.fresh O.dbig)⟩
 · by_cases hb : b = e'
   · have q' : G'.get? b = some o := q
     rw [hb, ge] at q'; cases q'
   · exact (gk b hb).symm.trans q
 · rw [upd_ne (Ne.symm O.dne)]
   exact I1.hok.fresh O.new
end L2
namespace L2
open PySem PySem.Spec PyProof.Rows
def ItzS (K : PySem.W.Frag) (x : Str) (b : Addr) : It :=
 ⟨fun i H => ∃ (ys : List V) (c : Nat) (y : V), SqT K H b ys ∧ x.cps[i]? = some c ∧ ys[i]? = some y ∧ i ≤ x.cps.size ∧ i ≤ ys.length,
   fun i H v H' => ∃ T c y, v = .ref T ∧ H T = none ∧ H' = upd H T (.tup [.str ⟨#[c]⟩, y]) ∧ x.cps[i]? = some c ∧ ∀ ys, SqT K H b ys → ys[i]? = some y,
   fun i H => ∃ ys : List V, SqT K H b ys ∧ i ≤ x.cps.size ∧ i ≤ ys.length ∧ (i = x.cps.size ∨ i = ys.length)⟩
theorem draws_text {prog : Program} {w : World} {A : Around} (hh : A.handled = none) (it : Addr) (x : Str) (t : Tok) (ty : String) (hty : ty = "str_ascii_iterator" ∨ ty = "str_iterator") :
   Draws prog w A it [it] x.cps.size (fun i v => ∃ c u, x.cps[i]? = some c ∧ v = .str ⟨#[c]⟩ u) (fun i h => h.IsStrIter it ty x t i) := by
 rcases hty with rfl | rfl
 · exact Draws.strAscii hh it x t
 · exact Draws.strWide hh it x t
theorem turn_zipS {P : Program} {w : World} {K : PySem.W.Frag} {elts : List Expr} {kk : Nat} {tpos : Pos} {b z TI TO i1 i2 : Addr} {x : Str} {t : Tok} {ty : String} (hty : ty = "str_ascii_iterator" ∨ ty = "str_iterator") (D : ZipSep2 z TI TO i1 i2 [i1] [i2, b]) (hb : b ≠ i2) :
   Turn P w K (.Tuple elts kk tpos) (ItzS K x b) [z, TI, TO, i1, i2] z (fun i h => IsZip h z TI TO .none ∧ IsTupOf2 h TI (.ref i1) (.ref i2) ∧ (∃ x y, IsTupOf2 h TO x y) ∧ h.IsStrIter i1 ty x t i ∧ h.IsTupleIter i2 b i) where
 mem := by simp
 obj := fun i h st c hc => by
   obtain ⟨hz, hTI, ⟨x, y, hTO⟩, ⟨o1, e1, _, d1⟩, ⟨o2, e2, _, d2⟩⟩ := st
   have e' : c = z ∨ c = TI ∨ c = TO ∨ c = i1 ∨ c = i2 := by simpa using hc
   rcases e' with q | q | q | q | q
   · rw [q]; exact ⟨_, hz, fun v q => nomatch q⟩
   · rw [q]; exact ⟨_, hTI, fun v q => nomatch q⟩
   · rw [q]; exact ⟨_, hTO, fun v q => nomatch q⟩
   · rw [q]; exact ⟨o1, e1, fun v q => by rw [d1] at q; cases q⟩
   · rw [q]; exact ⟨o2, e2, fun v q => by rw [d2] at q; cases q⟩
 keep := fun i h h' st k => by
   obtain ⟨hz, hTI, ⟨x, y, hTO⟩, ⟨o, ho, r⟩, h2⟩ := st
   exact ⟨k z (by simp) _ hz, k TI (by simp) _ hTI, ⟨x, y, k TO (by simp) _ hTO⟩, ⟨o, k i1 (by simp) o ho, r⟩, h2.at fun o q => k i2 (by simp) o q⟩
 item := by
   intro X hP hw hK hc i pins s σ H E I hf st hg
   subst hP hw hK
   obtain ⟨hz, hTI, ⟨x0, y0, hTO⟩, h1, h2⟩ := st
   obtain ⟨ys, c, y, hqy, hx, hy, l1, l2⟩ := hg
   obtain ⟨its2, rv2, p2, _⟩ := I.tuple hqy
   obtain ⟨u2, hu2, ru2⟩ := rv2.get hy
   have hzl : z < s.heap.objs.size := Heap.lt_size hz
   have hlt1 : i < x.cps.size := (Array.getElem?_eq_some_iff.mp hx).1
   have hlt2 : i < its2.toArray.size := by simpa using (List.getElem?_eq_some_iff.mp hu2).1
   have d1 := draws_text (prog := X.prog) (w := X.w) (A := X.A.in1) (I.ok.hd hc) i1 x t ty hty
   have d2 := Draws.tuple (prog := X.prog) (w := X.w) (A := X.A.in1) (I.ok.hd hc) i2 b hb its2.toArray
   refine wpAny_pyNext_zipD2_item (St1 := fun i h => h.IsStrIter i1 ty x t i) (St2 := fun i h => h.IsTupleIter i2 b i ∧ h.IsTuple b its2.toArray) D d1 d2 hz hTI hTO h1 ⟨h2, p2⟩ hlt1 hlt2 fun x1 x2 h' tk q1 q2 z' TO' h1' h2' hT hsz hk => ?_
   obtain ⟨c', u, hc', rfl⟩ := q1
   rw [hx] at hc'
   cases hc'
   have hx2 : x2 = u2 := by
     have q2' : its2[i]? = some x2 := by simpa using q2
     rw [hu2] at q2'
     exact (Option.some.inj q2').symm
   subst hx2
   refine ⟨_, rfl, wpAny_letOwnedTupleGo_zip (s := { s with heap := h', toks := tk }) z' fun h'' z'' sb => ?_⟩
   have hT2 : h''.get? s.heap.objs.size = some { cls := .type "tuple", data := .seq #[.str ⟨#[c]⟩ u, x2] } := (sb.2 _ (Nat.ne_of_gt hzl)).trans hT
   have new : ObjOk X.prog X.w (upd H s.heap.objs.size (.tup [.str ⟨#[c]⟩, y])) h'' s.heap.objs.size (.tup [.str ⟨#[c]⟩, y]) :=
     ⟨by show 2 ≤ sizeLine; decide, [.str ⟨#[c]⟩ u, x2], .cons ⟨u, rfl⟩ (.cons ru2 .nil), ⟨_, hT2, rfl, _, rfl⟩⟩
   have I1 : Inv X pins σ (upd H s.heap.objs.size (.tup [.str ⟨#[c]⟩, y])) { s with heap := h'', toks := tk } :=
     I.turnedNew (t' := tk) (ch := [z, TI, TO, i1, i2]) (fun c o hb q => (sb.2 c (fun q' => hb (by simp [q']))).trans (hk c o (fun q' => hb (by simp [q'])) (fun q' => hb (by simp [q'])) (fun q' => hb (by simp [q'])) (fun q' => hb (by simp [q'])) q)) hf (Nat.le_refl _) new
   refine ⟨.ref s.heap.objs.size, _, I1, rfl, ⟨_, c, y, rfl, I.hok.fresh (Nat.le_refl _), rfl, hx, fun l hl => by rw [I.tuple_inj hl hqy]; exact hy⟩, ⟨z'', ?_, ⟨.str ⟨#[c]⟩ u, x2, ?_⟩, ?_, ?_⟩, fun c hcm => ?_⟩
   · exact (sb.2 _ D.TIz).trans (hk _ _ D.TIz D.TITO D.TIi1 D.TIi2 hTI)
   · exact (sb.2 _ D.TOz).trans TO'
   · obtain ⟨o, ho, r⟩ := h1'
     exact ⟨o, (sb.2 _ D.zi1.symm).trans ho, r⟩
   · exact h2'.1.at fun o q => (sb.2 _ D.zi2.symm).trans q
   · have hlt : c < s.heap.objs.size := by
       have e' : c = z ∨ c = TI ∨ c = TO ∨ c = i1 ∨ c = i2 := by simpa using hcm
       rcases e' with q | q | q | q | q
       · rw [q]; exact hzl
       · rw [q]; exact Heap.lt_size hTI
       · rw [q]; exact Heap.lt_size hTO
       · rw [q]; obtain ⟨_, e1, _⟩ := h1; exact Heap.lt_size e1
       · rw [q]; obtain ⟨_, e2, _⟩ := h2; exact Heap.lt_size e2
     rw [upd_ne (Nat.ne_of_lt hlt)]
     exact (hf c hcm).1
 done := by
   intro X hP hw hK hc i pins s σ H E I hf st hg
   subst hP hw hK
   obtain ⟨hz, hTI, ⟨x0, y0, hTO⟩, h1, h2⟩ := st
   obtain ⟨ys, hqy, l1, l2, hend⟩ := hg
   obtain ⟨its2, rv2, p2, _⟩ := I.tuple hqy
   have ll := rv2.length
   have l2' : i ≤ its2.toArray.size := by simp; omega
   have he : i = x.cps.size ∨ i = its2.toArray.size := by
     rcases hend with q | q
     · exact .inl q
     · exact .inr (by simp; omega)
   have d1 := draws_text (prog := X.prog) (w := X.w) (A := X.A.in1) (I.ok.hd hc) i1 x t ty hty
   have d2 := Draws.tuple (prog := X.prog) (w := X.w) (A := X.A.in1) (I.ok.hd hc) i2 b hb its2.toArray
   exact wpAny_pyNext_zipD2_end (St1 := fun i h => h.IsStrIter i1 ty x t i) (St2 := fun i h => h.IsTupleIter i2 b i ∧ h.IsTuple b its2.toArray) D d1 d2 hz hTI hTO h1 ⟨h2, p2⟩ l1 l2' he fun h' tk hk => ⟨rfl, I.turnedL (t' := tk) (ch := [z, TI, TO, i1, i2]) (fun c o hb q =>
     hk c o (fun q' => hb (by simp [q'])) (fun q' => hb (by simp [q'])) (fun q' => hb (by simp [q'])) (fun q' => hb (by simp [q'])) q) hf⟩
 self := fun A i s Q E st h => wpAny_pyIter_zip st.1 h
def iZipS (K : PySem.W.Frag) (ta : TA) : TI := fun σ H R => ta σ H fun vs H1 => ∃ (x : Str) (b : Addr) (ys : List V), vs = [.str x, .ref b] ∧ SqT K H1 b ys ∧ R (ItzS K x b) H1
theorem pi_zipS {X : Cx} {e e2 : Expr} {ta : TA} {p pos tpos : Pos} {elts : List Expr} {kk : Nat} (hg : Gl X "zip") (hm : X.mg "zip" = none) (ha : PA X [e, e2] ta)
   (hs : starEach [e, e2] X.env = (false, eval e X.env) :: starEach [e2] X.env := by rfl) (hpl : (backTo pos (starEach [e2] X.env)).any (·.1) = false := by rfl) :
   PI X (.Tuple elts kk tpos) (.Call (.Name "zip" p) [e, e2] [] pos) (iZipS X.K ta) := by
 refine ⟨fun pins s σ H R I h => ?_⟩
 refine Call_ (ld_blt I hg hm PyProof.Rows.boot_zip (PyProof.Rows.callWith_type1 (thn (ha.run pos pins s σ H _ I h) fun us s1 ⟨vs, H1, I1, r1, q1⟩ => ?_) hs hpl))
 obtain ⟨x, b, ys, ex, hqy, q⟩ := q1
 subst ex
 obtain ⟨u1, u2, rfl, r, r'⟩ := vals2 r1
 obtain ⟨t, rfl⟩ := r
 cases r'
 have fresh5 : ∀ c, c ∈ [s1.heap.objs.size + 4, s1.heap.objs.size + 2, s1.heap.objs.size + 3, s1.heap.objs.size, s1.heap.objs.size + 1] → FpOk X pins H1 c := fun c hcm => by
   have e' : c = s1.heap.objs.size + 4 ∨ c = s1.heap.objs.size + 2 ∨ c = s1.heap.objs.size + 3 ∨ c = s1.heap.objs.size ∨ c = s1.heap.objs.size + 1 := by simpa using hcm
   have hle : s1.heap.objs.size ≤ c := by omega
   exact I1.fpOk hle (I1.hok.fresh hle)
 obtain ⟨its2, rv2, p2, _⟩ := I1.tuple hqy
 obtain ⟨o2, ho2, _⟩ := id p2
 have hblt := Heap.lt_size ho2
 refine zip_begins2 (begins_text x t) (begins_tuple b its2.toArray) trivial (show s1.heap.IsTuple b its2.toArray from p2) fun h' hz hTI hTO h1 h2 hsz hk => wpAny_pyIter_zip hz ?_
 have I2 : Inv X pins σ H1 { s1 with heap := h' } := I1.kept (t' := s1.toks) hk
 have sep := zip_sep2 (N := s1.heap.objs.size) (fp1 := []) (fp2 := [b]) (fun _ q => nomatch q) (fun c q => by
   have e : c = b := by simpa using q
   rw [e]; exact hblt)
 have hty : strIterType x = "str_ascii_iterator" ∨ strIterType x = "str_iterator" := by
   unfold strIterType
   split
   · exact .inl rfl
   · exact .inr rfl
 exact ⟨s1.heap.objs.size + 4, [s1.heap.objs.size + 4, s1.heap.objs.size + 2, s1.heap.objs.size + 3, s1.heap.objs.size, s1.heap.objs.size + 1], _, _, H1, rfl, I2, turn_zipS (x := x) (t := t) hty sep (Nat.ne_of_lt (Nat.lt_succ_of_lt hblt)), ⟨hz, hTI, ⟨_, _, hTO⟩, ⟨_, h1, rfl, rfl⟩, ⟨_, h2, rfl, rfl⟩⟩, fresh5, q⟩
theorem for_zipS {K : PySem.W.Frag} {b : Addr} {x : Str} {ys : List V} {g : TG} {tb : TS} {D : Ends} {σ : L2.St} {H : Hp} (hl : x.cps.size = ys.length) (Pv : Nat → L2.St → Hp → Prop) (h0 : Pv 0 σ H) (hq : ∀ i σ H, Pv i σ H → SqT K H b ys)
   (hs : ∀ (i c : Nat) (y : V) (T : Addr) (σ : L2.St) (H : Hp), x.cps[i]? = some c → ys[i]? = some y → Pv i σ H → H T = none → g (.ref T) σ (upd H T (.tup [.str ⟨#[c]⟩, y])) fun σ2 H2 => tb { D with nx := Pv (i + 1), ct := Pv (i + 1), bk := D.nx } σ2 H2) (hd : ∀ σ H, Pv ys.length σ H → D.nx σ H) :
   ∃ W : Nat → Nat → L2.St → Hp → Prop, (∃ m, W 0 m σ H) ∧ ∀ i m σ H, W i m σ H →
     ((ItzS K x b).stop i H ∧ D.nx σ H) ∨ ((ItzS K x b).go i H ∧ ∃ N : L2.St → Hp → Prop, (∀ σ' H', N σ' H' → ∃ m', m' < m ∧ W (i + 1) m' σ' H') ∧ ∀ v H', (ItzS K x b).yld i H v H' → g v σ H' fun σ2 H2 => tb { D with nx := N, ct := N, bk := D.nx } σ2 H2) := by
 refine ⟨fun i m σ H => m = ys.length - i ∧ i ≤ ys.length ∧ Pv i σ H, ⟨ys.length, rfl, Nat.zero_le _, h0⟩, ?_⟩
 rintro i m σ H ⟨rfl, hi, p⟩
 have qy := hq i σ H p
 by_cases hlt : i < ys.length
 · have hy : ys[i]? = some ys[i] := List.getElem?_eq_getElem hlt
   have hx : x.cps[i]? = some (x.cps[i]'(by omega)) := Array.getElem?_eq_getElem _
   refine .inr ⟨⟨ys, _, _, qy, hx, hy, by omega, hi⟩, Pv (i + 1), fun σ' H' p' => ⟨ys.length - (i + 1), by omega, rfl, hlt, p'⟩, fun v H' y => ?_⟩
   obtain ⟨T, c, y', rfl, hT, rfl, f1, f2⟩ := y
   exact hs i c y' T σ H f1 (f2 ys qy) p hT
 · have e : i = ys.length := by omega
   subst e
   exact .inl ⟨⟨ys, qy, by omega, Nat.le_refl _, .inr rfl⟩, hd σ H p⟩
end L2
namespace L2
namespace TS
open PySem PySem.Spec PyProof.Rows
def dist (xs : List Str) : Nat → Nat
 | 0 => 0
 | i + 1 => if (xs.take i).any (· == xs.getD i Str.empty) = true then dist xs i else dist xs i + 1
theorem dist_succ (xs : List Str) (i : Nat) : (if (xs.take i).any (· == xs.getD i Str.empty) = true then dist xs i else dist xs i + 1) = dist xs (i + 1) := rfl
theorem dist_le (xs : List Str) : ∀ i, dist xs i ≤ i
 | 0 => Nat.le_refl _
 | i + 1 => by
   unfold dist
   have := dist_le xs i
   split <;> omega
theorem take_one {α : Type} : ∀ {l : List α} {i : Nat} {x : α}, l[i]? = some x → l.take (i + 1) = l.take i ++ [x]
 | [], i, x, h => by simp at h
 | a :: l, 0, x, h => by
   have e : a = x := Option.some.inj h
   subst e
   rfl
 | a :: l, i + 1, x, h => by
   have ih := take_one (l := l) (i := i) (x := x) h
   show a :: l.take (i + 1) = a :: l.take i ++ [x]
   rw [ih]
   rfl
section
variable {prog : Program} {w : World} {A : Around} {R : Result → Shared → Prop} {I : Addr} {fp wr : List Addr} {G : Array GenState → Array GenState → Prop} {n : Nat} {P : Nat → Value → Prop} {St : Nat → Shared → Prop}
theorem loop_strs (W : WalksS prog w A.in1 I fp wr G n P St) (S : Addr) (hSf : S ∉ fp) (xs : List Str) (hsz : xs.length = n) (hn1 : n < 1000)
   (hval : ∀ i v, P i v → ∃ t, v = .str (xs.getD i Str.empty) t) :
   ∀ (k i : Nat) (s : Shared), n - i = k → i ≤ n → St i s →
     s.heap.SetOf (PySem.strKind prog w) S (fun k' => (xs.take i).any (· == k')) (dist xs i) →
     (∀ s', Moved (S :: wr) G s s' → s'.heap.SetOf (PySem.strKind prog w) S (fun k' => (xs.take n).any (· == k')) (dist xs n) → R (.ok (.ret .none)) s') →
     codeAny (model prog w) A (.builtin "set.update.loop" ⟨[.ref S, .ref I], []⟩) R s := by
 have hSw : S ∉ wr := fun h => hSf (W.sub _ h)
 have hsub : ∀ b ∈ wr, b ∈ S :: wr := fun b hb => List.mem_cons_of_mem _ hb
 intro k
 induction k with
 | zero =>
   intro i s hk hi hst hS hR
   have hin : i = n := by omega
   subst hin
   refine codeAny_builtin PyProof.Rows.F.entry_set_update_loop ?_
   rw [Around.under_plainId PyProof.Rows.F.plain_set_update_loop _]
   show wpAny _ A.in1 (pyNext (.ref I) >>= _) _ _ s
   refine wpAny_bind (W.done s _ _ hst fun s' hm => ?_)
   show wpAny _ A.in1 (ret Value.none) _ _ s'
   exact wpAny_pure (hR s' (hm.mono hsub) (by
     obtain ⟨o, es, ep, t, ho, rest⟩ := hS
     exact ⟨o, es, ep, t, hm.heap S _ hSw ho, rest⟩))
 | succ k ih =>
   intro i s hk hi hst hS hR
   have hlt : i < n := by omega
   have hdi := dist_le xs i
   refine codeAny_builtin PyProof.Rows.F.entry_set_update_loop ?_
   rw [Around.under_plainId PyProof.Rows.F.plain_set_update_loop _]
   show wpAny _ A.in1 (pyNext (.ref I) >>= _) _ _ s
   refine wpAny_bind (W.item i s _ _ hlt hst fun v s' hP hst' hm => ?_)
   obtain ⟨t, rfl⟩ := hval i v hP
   have hS' : s'.heap.SetOf (PySem.strKind prog w) S (fun k' => (xs.take i).any (· == k')) (dist xs i) := by
     obtain ⟨o, es, ep, tb, ho, rest⟩ := hS
     exact ⟨o, es, ep, tb, hm.heap S _ hSw ho, rest⟩
   show wpAny _ A.in1 (holding [Value.str (xs.getD i Str.empty) t] (setAdd S (.str (xs.getD i Str.empty) t)) >>= _) _ _ s'
   refine wpAny_bind (wpAny_holding ?_)
   unfold setAdd
   refine wpAny_holding ?_
   refine wpAny_bind ((PySem.strKind prog w).pyHash (k := xs.getD i Str.empty) (strKind_is _ _ _ _) ?_)
   refine wpAny_setAddHashed_of (knd := PySem.strKind prog w) (s := { s' with toks := s'.toks + 1 }) (strKind_is _ _ _ _) rfl hS' (by unfold scanBound; omega) fun h' hsb hS2 => ?_
   have hSi : h'.SetOf (PySem.strKind prog w) S (fun k' => (xs.take (i + 1)).any (· == k')) (dist xs (i + 1)) := by
     have hix : xs[i]? = some (xs.getD i Str.empty) := by
       rw [List.getD_eq_getElem?_getD, List.getElem?_eq_getElem (by omega)]
       rfl
     refine PyProof.Rows.SetOf_congr hS2 (fun k' => ?_) (dist_succ xs i)
     rw [take_one hix, List.any_append]
     congr 1
     by_cases e : k' = xs.getD i Str.empty
     · rw [e]; simp
     · have hb : (xs.getD i Str.empty == k') = false := by simpa [beq_iff_eq] using (fun h' : xs.getD i Str.empty = k' => e h'.symm)
       simp only [List.any_cons, List.any_nil, hb, Bool.or_false]
       exact decide_eq_false e
   refine wpAny_pure ⟨plainId_quiet PyProof.Rows.F.plain_set_update_loop _, ih (i + 1) _ (by omega) hlt (W.frame _ s' _ _ hst' (Nat.le_succ _) fun b hb o e => ?_) hSi fun s'' hm'' hS'' => ?_⟩
   · rw [hsb.2 b (fun h : b = S => hSf (by rw [← h]; exact hb))]; exact e
   · refine hR s'' (Moved.trans W.gtrans ((hm.mono hsub).then_heap (Nat.le_succ _) fun b o hb e => ?_) hm'') hS''
     rw [hsb.2 b (fun h : b = S => hb (by rw [h]; exact List.mem_cons_self))]; exact e
end
section
variable {prog : Program} {w : World} {A : Around} {E : Value → Shared → Prop} {s : Shared}
theorem call_set_strs {l : Addr} {items : Array Value} {xs : List Str} {Q : Value → Shared → Prop}
   (hh : A.handled = none) (hl : s.heap.IsTuple l items) (hi : PyProof.Rows.StrsAre items.toList xs) (hn1 : xs.length < 1000)
   (h : ∀ (h' : Heap) (tk : Nat), h'.SetOf (PySem.strKind prog w) s.heap.objs.size (fun k' => (xs.take items.size).any (· == k')) (dist xs items.size) →
     (∀ b o, b < s.heap.objs.size → s.heap.get? b = some o → h'.get? b = some o) → Q (.ref s.heap.objs.size) { s with heap := h', toks := tk }) :
   wpAny (model prog w) A (call (.type "set") [.ref l]) Q E s := by
 obtain ⟨c, tl, hmro⟩ := PySem.F.called_set.mro
 have hmade := PySem.F.called_set.made
 have hsub := PySem.F.called_set.sub
 refine wpAny_call (codeAny_of_tree ?_)
 show wpAny _ _ (callAny (.type "set") _) _ _ _
 refine wpAny_pure ⟨Code.quiet_builtin _ (by decide +kernel), codeAny_builtin PySem.F.entry_type_call ?_⟩
 rw [Around.under_plain (weight_type_call_type "set" [.ref l] []) rfl]
 have h1 := PySem.F.called_set.notType
 have h2 := PySem.F.called_set.canCreate
 have hct := PySem.F.typeCall_set_1 (.ref l)
 repeat (any_goals (first | assumption | wp_step))

 refine codeAny_mono (code_set_new_1 (.ref l) (E := E) (Q₁ := fun obj s₁ => ∃ led : Bool, obj = .ref s.heap.objs.size ∧ s₁ = { s with heap := s.heap.push { cls := .type "set", dict := none, data := .set #[] 0 (.fresh 0 0 led) } }) fun led => ⟨led, rfl, rfl⟩) fun r s₁ hr => ?_
 cases r with
 | error e => exact hr
 | ok fl =>
   cases fl with
   | ret obj =>
     obtain ⟨led, rfl, rfl⟩ := hr
     have hS : (s.heap.push { cls := .type "set", dict := none, data := .set #[] 0 (.fresh 0 0 led) }).get? s.heap.objs.size = some { cls := .type "set", dict := none, data := .set #[] 0 (.fresh 0 0 led) } := Heap.get?_push_size _ rfl
     have hT : Shared.TypeIs { s with heap := s.heap.push { cls := .type "set", dict := none, data := .set #[] 0 (.fresh 0 0 led) } } (.ref s.heap.objs.size) "set" := ⟨_, hS, rfl⟩
     have hli := PySem.F.called_set.init.lookup
     have hbi := PySem.F.called_set.init.bind (.ref s.heap.objs.size)
     repeat (any_goals (first | assumption | wp_step))

     refine codeAny_mono (codeAny_call_builtin (R := wants (fun r s₂ => r = .none ∧ ∃ h' tk, s₂ = { s with heap := h', toks := tk } ∧
         h'.SetOf (PySem.strKind prog w) s.heap.objs.size (fun k' => (xs.take items.size).any (· == k')) (dist xs items.size) ∧
         (∀ b o, b < s.heap.objs.size → s.heap.get? b = some o → h'.get? b = some o)) E) PySem.F.called_set.init.plain PySem.F.entry_set_init (check_set_init_1 hT ?_)) fun r₂ s₂ hr₂ => ?_
     · obtain ⟨ol, hol, hcl, nl, hdl⟩ := hl
       obtain ⟨ocls, odict, odata, oslots⟩ := ol
       simp only at hcl hdl
       subst hcl; subst hdl
       have hol' : (s.heap.push { cls := .type "set", dict := none, data := .set #[] 0 (.fresh 0 0 led) }).get? l = some { cls := .type "tuple", dict := odict, data := .seq items nl, slots := oslots } := Heap.get?_push_of_some _ hol
       have hsls := PySem.F.sub_tuple_set
       have hslf := PySem.F.sub_tuple_frozenset
       have hne : (Value.type "tuple" == Value.type "dict") = false := by decide
       have hl1 : (s.heap.push { cls := .type "set", dict := none, data := .set #[] 0 (.fresh 0 0 led) }).IsTuple l items := ⟨_, hol', rfl, nl, rfl⟩
       unfold Builtin.«set.__init__» noKeywords Builtin.Frozenset.updateFrom
       generalize hPI : pyIter = PI
       wp_walk
       subst hPI

       refine wpAny_pyIter_tuple hl1 ?_
       refine wpAny_bind (wpAny_runValue ?_)
       have hlS : l < s.heap.objs.size := Heap.lt_size hol
       have hh3 : A.in1.in1.in1.handled = none := by simp [hh]
       have hneI : l ≠ (s.heap.push { cls := .type "set", dict := none, data := .set #[] 0 (.fresh 0 0 led) }).objs.size := by
         rw [Heap.size_push]; exact Nat.ne_of_lt (Nat.lt_succ_of_lt hlS)
       have hSf : s.heap.objs.size ∉ [(s.heap.push { cls := .type "set", dict := none, data := .set #[] 0 (.fresh 0 0 led) }).objs.size, l] := by
         rw [Heap.size_push]; simp only [List.mem_cons, List.mem_singleton, List.not_mem_nil, or_false, not_or]
         exact ⟨Nat.ne_of_lt (Nat.lt_succ_self _), Nat.ne_of_gt hlS⟩
       have hsz : xs.length = items.size := by rw [← StrsAre.len_eq hi, Array.length_toList]
       have hval : ∀ (i : Nat) (v : Value), items[i]? = some v → ∃ t, v = .str (xs.getD i Str.empty) t := fun i v hv => SS.strs_at hi i v (by rw [Array.getElem?_toList]; exact hv)
       refine loop_strs ((Walks.tuple hh3 _ l hneI items).toS) s.heap.objs.size
         hSf xs hsz (by rw [← hsz]; exact hn1) hval (items.size - 0) 0 _ (by omega) (Nat.zero_le _)
         ⟨⟨_, Heap.get?_push_size _ rfl, rfl, rfl⟩, (hl1.push _)⟩ ?hS0 ?hR
       case hS0 =>
         have hget : ((s.heap.push { cls := .type "set", dict := none, data := .set #[] 0 (.fresh 0 0 led) }).push { cls := .type "tuple_iterator", data := .fields #[.ref l, .int 0 0] }).get? s.heap.objs.size
             = some { cls := .type "set", dict := none, data := .set #[] 0 (.fresh 0 0 led) } := Heap.get?_push_of_some _ hS
         exact PyProof.Rows.SetOf_congr ((PyProof.Rows.setObjOf_fresh (knd := PySem.strKind prog w) led).setOf hget (by unfold scanBound; omega)) (fun _ => rfl) rfl
       case hR =>
         intro s' hm hS'
         obtain ⟨h', g', d', tk', os'⟩ := s'
         have eg : g' = s.gens := hm.gens
         have ed : d' = s.drawn := hm.drawn
         have eo : os' = s.os := hm.os
         subst eg; subst ed; subst eo
         show wpAny _ _ _ _ _ _
         refine wpAny_pure ?_
         show wpAny _ _ (ret Value.none) _ _ _
         refine wpAny_pure ⟨rfl, h', tk', rfl, hS', fun b o hb e => ?_⟩
         have hb1 : b ≠ s.heap.objs.size := Nat.ne_of_lt hb
         have hb2 : b ≠ (s.heap.push { cls := .type "set", dict := none, data := .set #[] 0 (.fresh 0 0 led) }).objs.size := by
           rw [Heap.size_push]; exact Nat.ne_of_lt (Nat.lt_succ_of_lt hb)
         exact hm.heap b o (by simp only [List.mem_cons, List.mem_singleton, List.not_mem_nil, or_false, not_or]; exact ⟨hb1, hb2⟩) (Heap.get?_push_of_some _ (Heap.get?_push_of_some _ e))

     · cases r₂ with
       | error e => exact hr₂
       | ok fl₂ =>
         cases fl₂ with
         | ret r =>
           obtain ⟨rfl, h', tk, rfl, hS', hk'⟩ := hr₂
           repeat (any_goals (first | assumption | wp_step))
           exact h _ _ hS' hk'
         | _ => exact hr₂.elim
   | _ => exact hr.elim
end
theorem dist_full (xs : List Str) : ∀ i, i ≤ xs.length → (dist xs i = i ↔ (xs.take i).Nodup)
 | 0, _ => by simp [dist]
 | i + 1, h => by
   have ih := dist_full xs i (by omega)
   have le := dist_le xs i
   have hix : xs[i]? = some (xs.getD i Str.empty) := by
     rw [List.getD_eq_getElem?_getD, List.getElem?_eq_getElem (by omega)]
     rfl
   rw [take_one hix, List.nodup_append]
   unfold dist
   by_cases e : (xs.take i).any (· == xs.getD i Str.empty) = true
   · rw [if_pos e]
     constructor
     · intro q; omega
     · rintro ⟨_, _, q⟩
       obtain ⟨y, hy, ey⟩ := List.any_eq_true.mp e
       exact absurd (beq_iff_eq.mp ey) (q y hy _ (by simp))
   · rw [if_neg e]
     constructor
     · intro q
       refine ⟨ih.mp (by omega), by simp, fun y hy z hz => ?_⟩
       have hz' : z = xs.getD i Str.empty := by simpa using hz
       rw [hz']
       intro ey
       exact e (List.any_eq_true.mpr ⟨y, hy, by simp [ey]⟩)
     · rintro ⟨q, _, _⟩
       rw [ih.mpr q]
end TS
open PySem in
def tLenSetS (K : PySem.W.Frag) (ta : TE) : TE := fun σ H Q => ta σ H fun x H1 => ∃ (l : Addr) (xs : List Str), x = .ref l ∧ SqT K H1 l (xs.map V.str) ∧ xs.length < 1000 ∧ Q (.int (TS.dist xs xs.length : Nat)) H1
open PySem PySem.Spec PyProof.Rows in
theorem pe_lenSetS {X : Cx} {a : Expr} {ta : TE} {p p2 q pos : Pos} (hg : Gl X "len") (hm : X.mg "len" = none) (hg2 : Gl X "set") (hm2 : X.mg "set" = none) (ha : PE X a ta) (hc : X.calm = true := by rfl)
   (na : starEach [a] X.env = (false, eval a X.env) :: starEach [] X.env := by rfl) : PE X (.Call (.Name "len" p) [.Call (.Name "set" p2) [a] [] q] [] pos) (tLenSetS X.K ta) := by
 refine ⟨fun pins s σ H Q I h => ?_⟩
 refine Call_ (ld_blt I hg hm PySem.boot_len ?_)
 refine PyProof.Rows.callWith_builtin1 (PyProof.Rows.args_cons ?_ rfl) rfl rfl
 refine Call_ (ld_blt I hg2 hm2 PyProof.Rows.boot_set ?_)
 refine PyProof.Rows.callWith_type1 (PyProof.Rows.args_cons (thn (ha.run pins s σ H _ I h) fun v s1 ⟨x, H1, I1, r1, q1⟩ => PyProof.Rows.args_nil ?_) na) na rfl
 obtain ⟨l, xs, rfl, hq, h1, q1⟩ := q1
 cases r1
 obtain ⟨its, r, pl, hz⟩ := I1.tuple hq
 have hl : its.toArray.size = xs.length := by rw [List.size_toArray, ← r.length, List.length_map]
 refine TS.call_set_strs (I1.ok.hd hc) pl (by simpa using strsAre_of r) h1 fun h' tk hS hk => ?_
 refine PyProof.Rows.args_nil ?_
 rw [hl] at hS
 obtain ⟨o, es, ep, t, ho, hex, hd, _, _, _, hf, hn⟩ := hS
 have I2 : Inv X pins σ H1 { s1 with heap := h', toks := tk } := I1.kept fun b o e => hk b o (Heap.lt_size e) e
 have hdl := TS.dist_le xs xs.length
 exact call_len_set ho hex hd hf (by rw [hn] <;> omega) ⟨.int (TS.dist xs xs.length : Nat), H1, I2.tok _, ⟨_, by rw [hn]⟩, q1⟩
end L2
namespace Op
open PySem L2
abbrev PP : Program := PySem.Challenge.pw_openruns_k24_text_arguments
def top (i : Nat) : Stmt := PySem.Challenge.pw_openruns_k24_text_arguments.main.body.getD i (.Pass ⟨0, 0, 0, 0⟩)
abbrev s_InvalidProgram___init__ : Stmt := inClass (top 4) 0
abbrev s_InvalidHistory___init__ : Stmt := inClass (top 5) 0
abbrev s_InvalidText___init__ : Stmt := inClass (top 6) 0
abbrev s_InvalidArgument___init__ : Stmt := inClass (top 7) 0
abbrev s_is_integer : Stmt := top 18
abbrev s_is_word : Stmt := top 19
abbrev s_are_words : Stmt := top 20
abbrev s_inner_lists : Stmt := top 21
abbrev s_with_lists : Stmt := top 22
abbrev s_copy_row : Stmt := top 23
abbrev s_copy_rows : Stmt := top 24
abbrev s_checked_asks : Stmt := top 25
abbrev s_is_box : Stmt := top 26
abbrev s_checked_signals : Stmt := top 27
abbrev s_checked_inputs : Stmt := top 28
abbrev s_RowCheck___init__ : Stmt := inClass (top 29) 0
abbrev s_RowCheck_check : Stmt := inClass (top 29) 1
abbrev s_RowCheck_check_sizes : Stmt := inClass (top 29) 2
abbrev s_RowCheck_check_list : Stmt := inClass (top 29) 3
abbrev s_RowCheck_fits : Stmt := inClass (top 29) 4
abbrev s_RowCheck_id_fits : Stmt := inClass (top 29) 5
abbrev s_RowCheck_part_fits : Stmt := inClass (top 29) 6
abbrev s_RowCheck_collect : Stmt := inClass (top 29) 7
abbrev s_is_branches : Stmt := top 30
abbrev s_Program___init__ : Stmt := inClass (top 32) 0
abbrev s_Program_add_rows : Stmt := inClass (top 32) 1
abbrev s_check_program : Stmt := top 33
abbrev s_has_form : Stmt := top 39
abbrev s_is_outer : Stmt := top 40
abbrev s_suits_things : Stmt := top 41
abbrev s_enter_token : Stmt := top 42
abbrev s_check_tokens : Stmt := top 43
abbrev s_split_turns : Stmt := top 44
abbrev s_check : Stmt := top 46
abbrev s_program_text : Stmt := top 55
abbrev s_line_parts : Stmt := top 56
abbrev s_row_form : Stmt := top 57
abbrev s_all_words : Stmt := top 58
abbrev s_LineReader___init__ : Stmt := inClass (top 59) 0
abbrev s_LineReader_peek : Stmt := inClass (top 59) 1
abbrev s_LineReader_expect : Stmt := inClass (top 59) 2
abbrev s_LineReader_head : Stmt := inClass (top 59) 3
abbrev s_LineReader_inputs_line : Stmt := inClass (top 59) 4
abbrev s_LineReader_block : Stmt := inClass (top 59) 5
abbrev s_LineReader_row : Stmt := inClass (top 59) 6
abbrev s_read_program : Stmt := top 60
abbrev s_history_text : Stmt := top 62
abbrev s_number_like : Stmt := top 63
abbrev s_token_of : Stmt := top 64
abbrev s_read_history : Stmt := top 65
abbrev s__law_pool : Stmt := top 67
abbrev s__law_draw : Stmt := top 68
abbrev s__law_item : Stmt := top 69
abbrev s__law_call : Stmt := top 70
abbrev s__law_nested : Stmt := top 71
abbrev s__law_nested_due : Stmt := top 72
abbrev s_law : Stmt := top 73
end Op
namespace L2
open PySem PySem.Spec PyProof.Rows
def Cal (P : Program) (w : World) (K : PySem.W.Frag) (mg : Str → Option Value) (base : Heap) (CX : CXT) (k : Nat) (x : Str) (ps : List Str) (sp : Sp) : Prop :=
 ∃ (f : Addr) (fd : FuncData), mg x = some (.ref f) ∧ PySem.W.keepIn K (.ref f) = true ∧ Binds K fd ps [] ∧ FnOk P w K mg base CX k f fd ps sp
theorem pe_cal {X : Cx} {CX : CXT} {k : Nat} {x : Str} {ps : List Str} {sp : Sp} {E : XK} {p pos : Pos} {e : Expr} {es : List Expr} {t : TA} (c : Cal X.prog X.w X.K X.mg X.base CX k x ps sp) (hr : Room k X.A) (hg : Gl X x) (hx : Passes CX X E) (ha : PA X (e :: es) t)
   (hdb : (x == ("__debug__" : Str)) = false := by decide) (he : starEach (e :: es) X.env = (false, eval e X.env) :: starEach es X.env := by rfl) (hpl : (backTo pos (starEach es X.env)).any (·.1) = false := by rfl) :
   PE X (.Call (.Name x p) (e :: es) [] pos) (tCall sp [] E t) := by
 obtain ⟨f, fd, h1, h2, h3, h4⟩ := c
 exact pe_call h4 hr hg h1 h2 h3 .nil hx ha hdb he hpl
theorem SqL.mono {K : PySem.W.Frag} {H H' : Hp} {a : Addr} {xs : List V} (h : SqL K H a xs) (s : Same H H') : SqL K H' a xs := Evl.ex_l s h
theorem SqT.mono {K : PySem.W.Frag} {H H' : Hp} {a : Addr} {xs : List V} (h : SqT K H a xs) (s : Same H H') : SqT K H' a xs := Evl.ex_t s h
mutual
theorem Dp.mono {K : PySem.W.Frag} {H H' : Hp} (s : Same H H') : ∀ {v : V} {d : PyData}, Dp K H v d → Dp K H' v d
 | _, _, .non => .non
 | _, _, .bl b => .bl b
 | _, _, .int i => .int i
 | _, _, .str x => .str x
 | _, _, .lst h a => .lst (h.mono s) (DpAll.mono s a)
 | _, _, .tup h a => .tup (h.mono s) (DpAll.mono s a)
theorem DpAll.mono {K : PySem.W.Frag} {H H' : Hp} (s : Same H H') : ∀ {vs : List V} {ds : List PyData}, DpAll K H vs ds → DpAll K H' vs ds
 | _, _, .nil => .nil
 | _, _, .cons h a => .cons (Dp.mono s h) (DpAll.mono s a)
end
theorem DpAll.len {K : PySem.W.Frag} {H : Hp} : ∀ {vs : List V} {ds : List PyData}, DpAll K H vs ds → vs.length = ds.length
 | _, _, .nil => rfl
 | _, _, .cons _ a => congrArg Nat.succ a.len
theorem DpAll.get {K : PySem.W.Frag} {H : Hp} : ∀ {vs : List V} {ds : List PyData} {i : Nat} {v : V}, DpAll K H vs ds → vs[i]? = some v → ∃ d, ds[i]? = some d ∧ Dp K H v d
 | _, _, i, _, .nil, h => by simp at h
 | _, _, 0, v, .cons (d := d) h a, e => by
   have e' := Option.some.inj e
   subst e'
   exact ⟨d, rfl, h⟩
 | _, _, i + 1, v, .cons h a, e => a.get (i := i) e
theorem DpAll.drop {K : PySem.W.Frag} {H : Hp} : ∀ {vs : List V} {ds : List PyData} (n : Nat), DpAll K H vs ds → DpAll K H (vs.drop n) (ds.drop n)
 | _, _, 0, h => h
 | _, _, _ + 1, .nil => .nil
 | _, _, n + 1, .cons _ a => DpAll.drop n a
def tyN : PyData → String
 | .none => "NoneType"
 | .bool _ => "bool"
 | .int _ => "int"
 | .str _ => "str"
 | .list _ => "list"
 | .tuple _ => "tuple"
 | .dict _ => "dict"
theorem ty_dp {K : PySem.W.Frag} {H : Hp} {v : V} {d : PyData} (h : Dp K H v d) : TyX K H v (.type (tyN d)) := by
 cases h with
 | non => exact .base .non
 | bl b => exact .base (.bl b)
 | int i => exact .base (.int i)
 | str x => exact .base (.str x)
 | lst hs _ => 
   rcases hs with (hs | ⟨o, hs⟩) | hs
   · exact .base (.lst hs)
   · exact .base (.frz hs)
   · obtain ⟨o, its, n, h1, h2, _⟩ := hs
     exact .kList h1 h2
 | tup hs _ => 
   rcases hs with (hs | ⟨o, hs⟩) | hs
   · exact .base (.tup hs)
   · exact .fTuple hs
   · obtain ⟨o, its, n, h1, h2, _⟩ := hs
     exact .kTuple h1 h2
end L2
namespace Op
open PySem L2 PyProof.Rows
theorem ifT {c : Bool} {A B : Prop} (hc : c = true) (h : A) : if c = true then A else B := by
 rw [if_pos hc]
 exact h
theorem ifF {c : Bool} {A B : Prop} (hc : c = false) (h : B) : if c = true then A else B := by
 rw [hc, if_neg Bool.false_ne_true]
 exact h
def letters : Str := "abcdefghijklmnopqrstuvwxyz"
def isWordS (x : Str) : Bool := decide (1 ≤ x.length ∧ x.length ≤ 8) && x.cps.toList.all fun c => decide (c ∈ letters.cps.toList)
def isWord : PyData → Bool
 | .str x => isWordS x
 | _ => false
def isStr : PyData → Bool
 | .str _ => true
 | _ => false
def isList : PyData → Bool
 | .list _ => true
 | _ => false
def isTup : PyData → Bool
 | .tuple _ => true
 | _ => false
def isInt : PyData → Bool
 | .int _ => true
 | _ => false
def strOf : PyData → Str
 | .str x => x
 | _ => ""
def areWords (most : Int) : PyData → Bool
 | .tuple ds => decide (1 ≤ ds.length ∧ (ds.length : Int) ≤ most) && (ds.all isWord && decide ((ds.map strOf).Nodup))
 | _ => false
def isBranches : PyData → Bool
 | .tuple ds => decide (2 ≤ ds.length ∧ ds.length ≤ 3) && ds.all isList
 | _ => false
section
variable {K : PySem.W.Frag} {H : Hp}
theorem kit_str (d : PyData) : PySem.W.kitOne K (.type (tyN d)) (.type "str") = some (isStr d) := by
 cases d with
 | none => exact kit_ty (show kitB "NoneType" "str" = some false by decide +kernel)
 | bool _ => exact kit_ty (show kitB "bool" "str" = some false by decide +kernel)
 | int _ => exact kit_ty (show kitB "int" "str" = some false by decide +kernel)
 | str _ => exact kit_ty (show kitB "str" "str" = some true by decide +kernel)
 | list _ => exact kit_ty (show kitB "list" "str" = some false by decide +kernel)
 | tuple _ => exact kit_ty (show kitB "tuple" "str" = some false by decide +kernel)
 | dict _ => exact kit_ty (show kitB "dict" "str" = some false by decide +kernel)
theorem kit_list (d : PyData) : PySem.W.kitOne K (.type (tyN d)) (.type "list") = some (isList d) := by
 cases d with
 | none => exact kit_ty (show kitB "NoneType" "list" = some false by decide +kernel)
 | bool _ => exact kit_ty (show kitB "bool" "list" = some false by decide +kernel)
 | int _ => exact kit_ty (show kitB "int" "list" = some false by decide +kernel)
 | str _ => exact kit_ty (show kitB "str" "list" = some false by decide +kernel)
 | list _ => exact kit_ty (show kitB "list" "list" = some true by decide +kernel)
 | tuple _ => exact kit_ty (show kitB "tuple" "list" = some false by decide +kernel)
 | dict _ => exact kit_ty (show kitB "dict" "list" = some false by decide +kernel)
theorem kit_tuple (d : PyData) : PySem.W.kitOne K (.type (tyN d)) (.type "tuple") = some (isTup d) := by
 cases d with
 | none => exact kit_ty (show kitB "NoneType" "tuple" = some false by decide +kernel)
 | bool _ => exact kit_ty (show kitB "bool" "tuple" = some false by decide +kernel)
 | int _ => exact kit_ty (show kitB "int" "tuple" = some false by decide +kernel)
 | str _ => exact kit_ty (show kitB "str" "tuple" = some false by decide +kernel)
 | list _ => exact kit_ty (show kitB "list" "tuple" = some false by decide +kernel)
 | tuple _ => exact kit_ty (show kitB "tuple" "tuple" = some true by decide +kernel)
 | dict _ => exact kit_ty (show kitB "dict" "tuple" = some false by decide +kernel)
theorem kit_int (d : PyData) : PySem.W.kitOne K (.type (tyN d)) (.type "int") = some (match d with | .int _ => true | .bool _ => true | _ => false) := by
 cases d with
 | none => exact kit_ty (show kitB "NoneType" "int" = some false by decide +kernel)
 | bool _ => exact kit_ty (show kitB "bool" "int" = some true by decide +kernel)
 | int _ => exact kit_ty (show kitB "int" "int" = some true by decide +kernel)
 | str _ => exact kit_ty (show kitB "str" "int" = some false by decide +kernel)
 | list _ => exact kit_ty (show kitB "list" "int" = some false by decide +kernel)
 | tuple _ => exact kit_ty (show kitB "tuple" "int" = some false by decide +kernel)
 | dict _ => exact kit_ty (show kitB "dict" "int" = some false by decide +kernel)
theorem kit_bool (d : PyData) : PySem.W.kitOne K (.type (tyN d)) (.type "bool") = some (match d with | .bool _ => true | _ => false) := by
 cases d with
 | none => exact kit_ty (show kitB "NoneType" "bool" = some false by decide +kernel)
 | bool _ => exact kit_ty (show kitB "bool" "bool" = some true by decide +kernel)
 | int _ => exact kit_ty (show kitB "int" "bool" = some false by decide +kernel)
 | str _ => exact kit_ty (show kitB "str" "bool" = some false by decide +kernel)
 | list _ => exact kit_ty (show kitB "list" "bool" = some false by decide +kernel)
 | tuple _ => exact kit_ty (show kitB "tuple" "bool" = some false by decide +kernel)
 | dict _ => exact kit_ty (show kitB "dict" "bool" = some false by decide +kernel)
theorem kit_dict (d : PyData) : PySem.W.kitOne K (.type (tyN d)) (.type "dict") = some (match d with | .dict _ => true | _ => false) := by
 cases d with
 | none => exact kit_ty (show kitB "NoneType" "dict" = some false by decide +kernel)
 | bool _ => exact kit_ty (show kitB "bool" "dict" = some false by decide +kernel)
 | int _ => exact kit_ty (show kitB "int" "dict" = some false by decide +kernel)
 | str _ => exact kit_ty (show kitB "str" "dict" = some false by decide +kernel)
 | list _ => exact kit_ty (show kitB "list" "dict" = some false by decide +kernel)
 | tuple _ => exact kit_ty (show kitB "tuple" "dict" = some false by decide +kernel)
 | dict _ => exact kit_ty (show kitB "dict" "dict" = some true by decide +kernel)
end
structure Txt (mg : Str → Option Value) : Prop where
 b_len : mg "len" = none
 b_int : mg "int" = none
 b_bool : mg "bool" = none
 b_str : mg "str" = none
 b_list : mg "list" = none
 b_tuple : mg "tuple" = none
 b_dict : mg "dict" = none
 b_set : mg "set" = none
 b_range : mg "range" = none
 b_zip : mg "zip" = none
 b_enumerate : mg "enumerate" = none
 b_sorted : mg "sorted" = none
 b_isinstance : mg "isinstance" = none
 g_LETTERS : ∃ t, mg "LETTERS" = some (.str letters t)
def spWord (K : PySem.W.Frag) : Sp := fun vs H Q _ => ∃ (v : V) (d : PyData), vs = [v] ∧ Dp K H v d ∧ (∀ x, d = .str x → x.length ≤ 100000) ∧ Q (.bl (isWord d)) H
section
variable {P : Program} {w : World} {K : PySem.W.Frag} {mg : Str → Option Value} {base : Heap} {H : Hp}
theorem chain_le {σ : L2.St} {H : Hp} {Q : VK} {ta tb : TE} {lo hi n : Int} (tl : TE) (h1 : ∀ Q, Q (.int lo) H → ta σ H Q) (h : ∀ Q, Q (.int n) H → tl σ H Q) (h2 : ∀ Q, Q (.int hi) H → tb σ H Q) (q : Q (.bl (decide (lo ≤ n ∧ n ≤ hi))) H) :
   tChain (rI0 fun i j => .bl (decide (i ≤ j))) (rI0 fun i j => .bl (decide (i ≤ j))) ta tl tb σ H Q := by
 refine h1 _ (h _ ⟨_, _, rfl, rfl, _, rfl, ?_⟩)
 by_cases c : lo ≤ n
 · refine ifT (decide_eq_true c) (h2 _ ⟨_, _, rfl, rfl, ?_⟩)
   have e : decide (n ≤ hi) = decide (lo ≤ n ∧ n ≤ hi) := by simp [c]
   show Q (.bl (decide (n ≤ hi))) H
   rw [e]
   exact q
 · refine ifF (decide_eq_false c) ?_
   have e : false = decide (lo ≤ n ∧ n ≤ hi) := by simp [c]
   rw [e]
   exact q
theorem sc_is_word : FnScope ["value", "letter"] ["value"] (defScope s_is_word) := ⟨rfl, rfl, rfl, by decide +kernel, rfl, by decide +kernel, by decide +kernel⟩
theorem ok_is_word {f : Addr} {fd : FuncData} (F : Fun K "is_word" "is_word" s_is_word f fd) (T : Txt mg) : FnOk P w K mg base CX0 1 f fd ["value"] (spWord K) := by
 refine F.ok sc_is_word (fun vs H Q E h => ?_) (fun cdv A outer s H vs Q E hr h => ?_)
 · obtain ⟨v, d, rfl, _⟩ := h
   rfl
 · obtain ⟨v, d, rfl, hd, hl, k⟩ := h
   obtain ⟨tk, hL⟩ := T.g_LETTERS
   refine ⟨_, (pss_cons (ps_if (PW.pt (pw_or (pt_not (pt_val (pe_callB call_isi (by rfl) T.b_isinstance (by decide +kernel) (pa_cons (pv 0) (pa_cons (pe_bltn (v := .ty "str") (by rfl) T.b_str (by decide +kernel) rfl) pa_nil))))) (pw_or1 (pt_not (pt_chain op_le op_le pe_int (pe_callB call_len_str (by rfl) T.b_len (by decide +kernel) (pa_cons (pv 0) pa_nil)) pe_int))))) (pss_one (ps_ret pe_bl)) pss_nil)
     (pss_cons (ps_for PassesOwn.never rfl (pi_str (pv 0)) (pg_name (i := 1) sc_is_word.nd rfl (.inl rfl)) (pss_one (ps_if (pt_cmpR op_notIn_sign (pv 1) (pe_glob (v := .str letters) rfl hL ⟨_, rfl⟩) (by rfl)) (pss_one (ps_ret pe_bl)) pss_nil)))
     (pss_one (ps_ret pe_bl)))), ?_⟩
   refine ⟨_, rfl, v, _, _, _, _, rfl, .ty _, ty_dp hd, kit_str d, _, rfl, ?_⟩
   cases hd with
   | str x =>
     refine ifF rfl ?_
     refine chain_le _ (fun Q q => q) (fun Q q => ⟨_, rfl, x, rfl, Evl.sz_of (hl x rfl), q⟩) (fun Q q => q) ⟨_, rfl, ?_⟩
     by_cases c : (1 : Int) ≤ (x.length : Int) ∧ (x.length : Int) ≤ 8
     · rw [decide_eq_true c]
       refine ifF rfl ?_
       have eL : decide (1 ≤ x.length ∧ x.length ≤ 8) = true := decide_eq_true (by omega)
       refine ⟨_, rfl, x, rfl, for_it walk_str (fun i σ H' => H' = H ∧ (∃ y : Option V, σ = [some (.str x), y]) ∧ (x.cps.toList.take i).all (fun c => decide (c ∈ letters.cps.toList)) = true) ⟨rfl, ⟨none, rfl⟩, rfl⟩ (fun _ _ _ _ _ => trivial) ?_ ?_⟩
       · rintro i v σ H1 H2 hi ⟨rfl, ⟨y, rfl⟩, hp⟩ ⟨rfl, c, hc, rfl⟩
         have hc' : x.cps.toList[i]? = some c := by rw [Array.getElem?_toList]; exact hc
         refine ⟨_, rfl, c, letters, rfl, rfl, _, rfl, ?_⟩
         by_cases m : c ∈ letters.cps.toList
         · rw [decide_eq_true m]
           refine ifF rfl ⟨rfl, ⟨_, rfl⟩, ?_⟩
           rw [TS.take_one hc', List.all_append, hp, List.all_cons, List.all_nil, decide_eq_true m]
           rfl
         · rw [decide_eq_false m]
           refine ifT rfl ?_
           have e : isWord (.str x) = false := by
             show (decide (1 ≤ x.length ∧ x.length ≤ 8) && _) = false
             rw [eL, Bool.true_and]
             refine Bool.eq_false_iff.mpr fun q => ?_
             have := List.all_eq_true.mp q c (List.mem_of_getElem? hc')
             exact m (of_decide_eq_true this)
           rw [e] at k
           exact k
       · rintro σ H1 ⟨rfl, ⟨y, rfl⟩, hp⟩
         have e : isWord (.str x) = true := by
           show (decide (1 ≤ x.length ∧ x.length ≤ 8) && _) = true
           rw [eL, Bool.true_and]
           rw [List.take_of_length_le (by rw [Array.length_toList]; exact Nat.le_refl _)] at hp
           exact hp
         rw [e] at k
         exact k
     · rw [decide_eq_false c]
       refine ifT rfl ?_
       have e : isWord (.str x) = false := by
         show (decide (1 ≤ x.length ∧ x.length ≤ 8) && _) = false
         rw [decide_eq_false (by omega)]
         rfl
       rw [e] at k
       exact k
   | _ => exact ifT rfl k
mutual
def small : PyData → Bool
 | .str x => decide (x.length ≤ 100000)
 | .list xs => decide (xs.length ≤ 100000) && smalls xs
 | .tuple xs => decide (xs.length ≤ 100000) && smalls xs
 | _ => true
def smalls : List PyData → Bool
 | [] => true
 | x :: r => small x && smalls r
end
theorem smalls_get : ∀ {ds : List PyData} {i : Nat} {d : PyData}, smalls ds = true → ds[i]? = some d → small d = true
 | [], i, d, _, h => by simp at h
 | x :: r, 0, d, h, e => by
   have e' := Option.some.inj e
   subst e'
   exact (Bool.and_eq_true_iff.mp h).1
 | x :: r, i + 1, d, h, e => smalls_get (ds := r) (i := i) (Bool.and_eq_true_iff.mp h).2 e
theorem small_str {x : Str} (h : small (.str x) = true) : x.length ≤ 100000 := of_decide_eq_true h
theorem strs_of : ∀ {ds : List PyData} {xs : List V}, ds.all isWord = true → DpAll K H xs ds → ∃ zs : List Str, ds = zs.map PyData.str ∧ xs = zs.map V.str := by
 intro ds
 induction ds with
 | nil =>
   intro xs _ h
   cases h
   exact ⟨[], rfl, rfl⟩
 | cons d r ih =>
   intro xs h hp
   cases hp with
   | cons hd ha =>
     obtain ⟨h1, h2⟩ := Bool.and_eq_true_iff.mp h
     obtain ⟨zs, e1, e2⟩ := ih h2 ha
     cases hd with
     | str x => exact ⟨x :: zs, by rw [e1]; rfl, by rw [e2]; rfl⟩
     | _ => cases h1
def spAreWords (K : PySem.W.Frag) : Sp := fun vs H Q _ => ∃ (v : V) (d : PyData) (m : Int), vs = [v, .int m] ∧ Dp K H v d ∧ small d = true ∧ m < 100 ∧ Q (.bl (areWords m d)) H
theorem sc_are_words : FnScope ["value", "most", "item"] ["value", "most"] (defScope s_are_words) := ⟨rfl, rfl, rfl, by decide +kernel, rfl, by decide +kernel, by decide +kernel⟩
theorem ok_are_words {f : Addr} {fd : FuncData} (F : Fun K "are_words" "are_words" s_are_words f fd) (T : Txt mg) (c_is_word : Cal P w K mg base CX0 1 "is_word" ["value"] (spWord K)) : FnOk P w K mg base CX0 2 f fd ["value", "most"] (spAreWords K) := by
 refine F.ok sc_are_words (fun vs H Q E h => ?_) (fun cdv A outer s H vs Q E hr h => ?_)
 · obtain ⟨v, d, m, rfl, _⟩ := h
   rfl
 · obtain ⟨v, d, m, rfl, hd, hs, hm, k⟩ := h
   refine ⟨_, (pss_cons (ps_if (PW.pt (pw_or (pt_not (pt_val (pe_callB call_isi (by rfl) T.b_isinstance (by decide +kernel) (pa_cons (pv 0) (pa_cons (pe_bltn (v := .ty "tuple") (by rfl) T.b_tuple (by decide +kernel) rfl) pa_nil))))) (pw_or1 (pt_not (pt_chain op_le op_le pe_int (pe_callB call_len_seq (by rfl) T.b_len (by decide +kernel) (pa_cons (pv 0) pa_nil)) (pv 1)))))) (pss_one (ps_ret pe_bl)) pss_nil)
     (pss_cons (ps_for PassesOwn.never rfl (pi_tup (pv 0)) (pg_name (i := 2) sc_are_words.nd rfl (.inl rfl)) (pss_one (ps_if (pt_not (pt_val (pe_cal c_is_word (hr.mono (by omega)) rfl pass0 (pa_cons (pv 2) pa_nil)))) (pss_one (ps_ret pe_bl)) pss_nil)))
     (pss_one (ps_ret (pe_cmpR op_eq (pe_lenSetS (by rfl) T.b_len (by rfl) T.b_set (pv 0)) (pe_callB call_len_seq (by rfl) T.b_len (by decide +kernel) (pa_cons (pv 0) pa_nil)) (nomark _)))))), ?_⟩
   refine ⟨_, rfl, v, _, _, _, _, rfl, .ty _, ty_dp hd, kit_tuple d, _, rfl, ?_⟩
   cases hd with
   | @tup a xs ds hq ha =>
     refine ifF rfl ?_
     have hlen := ha.len
     refine chain_le _ (fun Q q => q) (fun Q q => ⟨_, rfl, a, xs, rfl, .inr hq, q⟩) (fun Q q => ⟨_, rfl, q⟩) ⟨_, rfl, ?_⟩
     by_cases c : (1 : Int) ≤ (xs.length : Int) ∧ (xs.length : Int) ≤ m
     · rw [decide_eq_true c]
       refine ifF rfl ?_
       have eL : decide (1 ≤ ds.length ∧ (ds.length : Int) ≤ m) = true := decide_eq_true (by omega)
       refine ⟨_, rfl, a, rfl, ⟨_, hq⟩, for_it walk_tup (fun i σ H' => H' = H ∧ (∃ y : Option V, σ = [some (.ref a), some (.int m), y]) ∧ (ds.take i).all isWord = true) ⟨rfl, ⟨none, rfl⟩, rfl⟩ (fun _ _ _ _ p => by rw [p.1]; exact hq) ?_ ?_⟩
       · rintro i x σ H1 H2 hi ⟨rfl, ⟨y, rfl⟩, hp⟩ ⟨rfl, hx⟩
         obtain ⟨d, hd1, hd2⟩ := ha.get hx
         have hsd := smalls_get (Bool.and_eq_true_iff.mp hs).2 hd1
         refine ⟨_, rfl, x, d, rfl, hd2, fun z e => small_str (by rw [← e]; exact hsd), _, rfl, ?_⟩
         by_cases mw : isWord d = true
         · rw [mw]
           refine ifF rfl ⟨rfl, ⟨_, rfl⟩, ?_⟩
           rw [TS.take_one hd1, List.all_append, hp]
           simp [mw]
         · rw [Bool.eq_false_iff.mpr mw]
           refine ifT rfl ?_
           have e : areWords m (.tuple ds) = false := by
             show (decide (1 ≤ ds.length ∧ (ds.length : Int) ≤ m) && (ds.all isWord && _)) = false
             rw [eL, Bool.true_and]
             refine Bool.eq_false_iff.mpr fun q => ?_
             exact mw (List.all_eq_true.mp (Bool.and_eq_true_iff.mp q).1 d (List.mem_of_getElem? hd1))
           rw [e] at k
           exact k
       · rintro σ H1 ⟨rfl, ⟨y, rfl⟩, hp⟩
         rw [List.take_of_length_le (by omega)] at hp
         obtain ⟨zs, rfl, rfl⟩ := strs_of hp ha
         rw [List.length_map] at hlen c
         refine ⟨_, rfl, a, zs, rfl, hq, by omega, _, rfl, a, _, rfl, .inr hq, rfl, ?_⟩
         have e : areWords m (.tuple (zs.map PyData.str)) = decide (V.int (TS.dist zs zs.length : Nat) = V.int ((zs.map V.str).length : Nat)) := by
           show (decide _ && ((zs.map PyData.str).all isWord && decide (((zs.map PyData.str).map strOf).Nodup))) = _
           rw [eL, hp, Bool.true_and, Bool.true_and, List.map_map]
           have e1 : zs.map (strOf ∘ PyData.str) = zs := by
             have : (strOf ∘ PyData.str) = id := by funext z; rfl
             rw [this, List.map_id]
           rw [e1, List.length_map]
           have f := TS.dist_full zs zs.length (Nat.le_refl _)
           rw [List.take_length] at f
           by_cases nd : zs.Nodup
           · rw [decide_eq_true nd, f.mpr nd]; simp
           · rw [decide_eq_false nd]
             refine (decide_eq_false fun q => nd (f.mp ?_)).symm
             have := V.int.inj q
             omega
         rw [e] at k
         exact k
     · rw [decide_eq_false c]
       refine ifT rfl ?_
       have e : areWords m (.tuple ds) = false := by
         show (decide (1 ≤ ds.length ∧ (ds.length : Int) ≤ m) && _) = false
         rw [decide_eq_false (by omega)]
         rfl
       rw [e] at k
       exact k
   | _ => exact ifT rfl k
def spBr (K : PySem.W.Frag) : Sp := fun vs H Q _ => ∃ (v : V) (d : PyData), vs = [v] ∧ Dp K H v d ∧ Q (.bl (isBranches d)) H
theorem sc_is_branches : FnScope ["value", "rows"] ["value"] (defScope s_is_branches) := ⟨rfl, rfl, rfl, by decide +kernel, rfl, by decide +kernel, by decide +kernel⟩
theorem ok_is_branches {f : Addr} {fd : FuncData} (F : Fun K "is_branches" "is_branches" s_is_branches f fd) (T : Txt mg) : FnOk P w K mg base CX0 1 f fd ["value"] (spBr K) := by
 refine F.ok sc_is_branches (fun vs H Q E h => ?_) (fun cdv A outer s H vs Q E hr h => ?_)
 · obtain ⟨v, d, rfl, _⟩ := h
   rfl
 · obtain ⟨v, d, rfl, hd, k⟩ := h
   refine ⟨_, (pss_cons (ps_if (PW.pt (pw_or (pt_not (pt_val (pe_callB call_isi (by rfl) T.b_isinstance (by decide +kernel) (pa_cons (pv 0) (pa_cons (pe_bltn (v := .ty "tuple") (by rfl) T.b_tuple (by decide +kernel) rfl) pa_nil))))) (pw_or1 (pt_not (pt_chain op_le op_le pe_int (pe_callB call_len_seq (by rfl) T.b_len (by decide +kernel) (pa_cons (pv 0) pa_nil)) pe_int))))) (pss_one (ps_ret pe_bl)) pss_nil)
     (pss_cons (ps_for PassesOwn.never rfl (pi_tup (pv 0)) (pg_name (i := 1) sc_is_branches.nd rfl (.inl rfl)) (pss_one (ps_if (pt_not (pt_val (pe_callB call_isi (by rfl) T.b_isinstance (by decide +kernel) (pa_cons (pv 1) (pa_cons (pe_bltn (v := .ty "list") (by rfl) T.b_list (by decide +kernel) rfl) pa_nil))))) (pss_one (ps_ret pe_bl)) pss_nil)))
     (pss_one (ps_ret pe_bl)))), ?_⟩
   refine ⟨_, rfl, v, _, _, _, _, rfl, .ty _, ty_dp hd, kit_tuple d, _, rfl, ?_⟩
   cases hd with
   | @tup a xs ds hq ha =>
     refine ifF rfl ?_
     have hlen := ha.len
     refine chain_le _ (fun Q q => q) (fun Q q => ⟨_, rfl, a, xs, rfl, .inr hq, q⟩) (fun Q q => q) ⟨_, rfl, ?_⟩
     by_cases c : (2 : Int) ≤ (xs.length : Int) ∧ (xs.length : Int) ≤ 3
     · rw [decide_eq_true c]
       refine ifF rfl ?_
       have eL : decide (2 ≤ ds.length ∧ ds.length ≤ 3) = true := decide_eq_true (by omega)
       refine ⟨_, rfl, a, rfl, ⟨_, hq⟩, for_it walk_tup (fun i σ H' => H' = H ∧ (∃ y : Option V, σ = [some (.ref a), y]) ∧ (ds.take i).all isList = true) ⟨rfl, ⟨none, rfl⟩, rfl⟩ (fun _ _ _ _ p => by rw [p.1]; exact hq) ?_ ?_⟩
       · rintro i x σ H1 H2 hi ⟨rfl, ⟨y, rfl⟩, hp⟩ ⟨rfl, hx⟩
         obtain ⟨d, hd1, hd2⟩ := ha.get hx
         refine ⟨_, rfl, x, _, _, _, _, rfl, .ty _, ty_dp hd2, kit_list d, _, rfl, ?_⟩
         by_cases mw : isList d = true
         · rw [mw]
           refine ifF rfl ⟨rfl, ⟨_, rfl⟩, ?_⟩
           rw [TS.take_one hd1, List.all_append, hp]
           simp [mw]
         · rw [Bool.eq_false_iff.mpr mw]
           refine ifT rfl ?_
           have e : isBranches (.tuple ds) = false := by
             show (decide (2 ≤ ds.length ∧ ds.length ≤ 3) && ds.all isList) = false
             rw [eL, Bool.true_and]
             refine Bool.eq_false_iff.mpr fun q => ?_
             exact mw (List.all_eq_true.mp q d (List.mem_of_getElem? hd1))
           rw [e] at k
           exact k
       · rintro σ H1 ⟨rfl, ⟨y, rfl⟩, hp⟩
         rw [List.take_of_length_le (by omega)] at hp
         have e : isBranches (.tuple ds) = true := by
           show (decide (2 ≤ ds.length ∧ ds.length ≤ 3) && ds.all isList) = true
           rw [eL, hp]
           rfl
         rw [e] at k
         exact k
     · rw [decide_eq_false c]
       refine ifT rfl ?_
       have e : isBranches (.tuple ds) = false := by
         show (decide (2 ≤ ds.length ∧ ds.length ≤ 3) && _) = false
         rw [decide_eq_false (by omega)]
         rfl
       rw [e] at k
       exact k
   | _ => exact ifT rfl k
end
end Op
namespace L2
open PySem PySem.Spec PyProof.Rows
def Ents (P : Params) : List DictEntry → List (Str × V) → Prop
 | [], [] => True
 | e :: r, (k, v) :: t => (∃ tk, e.key = .str k tk ∧ e.hash = PyData.keyHash P k) ∧ RelV v e.val ∧ Ents P r t
 | _, _ => False
def WTab (K : PySem.W.Frag) (w : World) (a : Addr) (tab : List (Str × V)) : Prop :=
 ∃ es n, K.lookup a = some ⟨.type "dict", none, .dict es n, #[]⟩ ∧ Ents w.params es.toList tab ∧ (a == sysModules) = false
theorem Ents.lit {P : Params} : ∀ {es : List DictEntry} {tab : List (Str × V)}, Ents P es tab → PySem.W.KeysLit P es
 | [], [], _ => trivial
 | e :: r, (k, v) :: t, ⟨⟨tk, h1, h2⟩, _, h3⟩ => ⟨⟨k, tk, h1, h2⟩, h3.lit⟩
theorem Ents.noRef {P : Params} : ∀ {es : List DictEntry} {tab : List (Str × V)}, Ents P es tab → es.any (·.refKey) = false
 | [], [], _ => rfl
 | e :: r, (k, v) :: t, ⟨⟨tk, h1, _⟩, _, h3⟩ => by
   rw [List.any_cons, h3.noRef, Bool.or_false]
   unfold DictEntry.refKey
   rw [h1]
theorem Ents.find {P : Params} (z : Str) : ∀ {es : List DictEntry} {tab : List (Str × V)}, Ents P es tab → RelO (tab.lookup z) ((es.find? (·.key.isStr z)).map (·.val))
 | [], [], _ => trivial
 | e :: r, (k, v) :: t, ⟨⟨tk, h1, _⟩, h2, h3⟩ => by
   rw [List.find?_cons]
   by_cases q : z = k
   · have e1 : e.key.isStr z = true := by rw [h1, q]; exact (by show (k == k) = true; simp)
     have e2 : ((k, v) :: t).lookup z = some v := by rw [q]; simp [List.lookup]
     rw [e1, e2]
     exact h2
   · have e1 : e.key.isStr z = false := by
       rw [h1]
       show (k == z) = false
       simpa using fun h : k = z => q h.symm
     have e2 : ((k, v) :: t).lookup z = t.lookup z := by
       have : (z == k) = false := by simpa using q
       simp [List.lookup, this]
     rw [e1, e2]
     exact h3.find z
theorem WTab.ns {K : PySem.W.Frag} {w : World} {a : Addr} {tab : List (Str × V)} (T : WTab K w a tab) (z : Str) : ∃ r, PySem.W.nsIn K a z = some r ∧ RelO (tab.lookup z) r := by
 obtain ⟨es, n, hl, he, _⟩ := T
 have f := he.find z
 unfold PySem.W.nsIn
 rw [hl]
 show ∃ r, (match es.toList.find? (·.key.isStr z) with | some e => some (some e.val) | none => if es.toList.any (·.refKey) then none else some none) = some r ∧ _
 cases q : es.toList.find? (·.key.isStr z) with
 | some e =>
   rw [q] at f
   exact ⟨_, rfl, f⟩
 | none =>
   rw [q] at f
   exact ⟨none, by rw [he.noRef]; rfl, f⟩
def rIxW (K : PySem.W.Frag) (w : World) : R2 := fun x y H Q => ∃ p z tab v, x = .ref p ∧ y = .str z ∧ WTab K w p tab ∧ tab.lookup z = some v ∧ Q v H
def rNotInW (K : PySem.W.Frag) (w : World) : R2 := fun x y H Q => ∃ p z tab, x = .str z ∧ y = .ref p ∧ WTab K w p tab ∧ Q (.bl (!(tab.lookup z).isSome)) H
theorem RelO.isSome {a : Option V} {b : Option Value} (h : RelO a b) : b.isSome = a.isSome := by
 cases a <;> cases b <;> first | rfl | exact h.elim
section
variable {X : Cx}
theorem ix_wtab : IxR X (rIxW X.K X.w) := by
 intro value slice pins s σ H x y v u Q I rx ry h hs
 obtain ⟨p, z, tab, r, rfl, rfl, T, hlk, q⟩ := h
 obtain ⟨o, e, rel⟩ := T.ns z
 obtain ⟨es, n, hl, he, _⟩ := T
 rw [hlk] at rel
 cases o with
 | none => exact rel.elim
 | some u0 => exact ix_kdict value slice pins s σ H _ _ v u Q I rx ry ⟨p, z, r, rfl, rfl, ⟨es, n, u0, hl, he.lit, e, rel⟩, q⟩ hs
theorem op_notIn_wtab : OpR X (compareOp .NotIn) (rNotInW X.K X.w) := by
 intro pins s σ H x y v u Q I rx ry h
 obtain ⟨p, z, tab, rfl, rfl, T, q⟩ := h
 obtain ⟨o, e, rel⟩ := T.ns z
 obtain ⟨es, n, hl, he, lo⟩ := T
 obtain ⟨t, rfl⟩ := rx
 obtain rfl : u = Value.ref p := ry
 have hm := PySem.W.mapOf_K (prog := X.prog) (w := X.w) I.kIn hl he.lit
 refine wpAny_notIn_of (strKind_is X.prog X.w z t) lo hm ?_
 rw [PySem.W.find_K hl e, rel.isSome]
 exact ⟨.bl _, H, I.tok _, rfl, q⟩
end
def Mcal (P : Program) (w : World) (K : PySem.W.Frag) (mg : Str → Option Value) (base : Heap) (CX : CXT) (k : Nat) (C : Addr) (m : Str) (ps : List Str) (sp : Sp) : Prop :=
 ∃ (f : Addr) (fd : FuncData), Meth K C m f ∧ Binds K fd ps [] ∧ FnOk P w K mg base CX k f fd ps sp
theorem pe_mcal {X : Cx} {CX : CXT} {k : Nat} {C : Addr} {m : Str} {ps : List Str} {sp : Sp} {E : XK} {apos pos : Pos} {o e : Expr} {es : List Expr} {ta : TE} {t : TA} (ho : PE X o ta) (c : Cls X.K C) (M : Mcal X.prog X.w X.K X.mg X.base CX k C m ps sp) (hr : Room k X.A) (hx : Passes CX X E) (ha : PA X (e :: es) t)
   {pl : Sem Bool} (hc : eval (.Call (.Attribute o m apos) (e :: es) [] pos) X.env = (do
     let ov ← eval o X.env
     standAt apos.atName
     let (f, first) ← holding [ov] (getMethod ov m pl)
     callWith pos f first (backTo pos (starEach (e :: es) X.env)) (backToKw pos (keywordEach [] X.env))) := by rfl)
   (he : starEach (e :: es) X.env = (false, eval e X.env) :: starEach es X.env := by rfl) (hpl : (backTo pos (starEach es X.env)).any (·.1) = false := by rfl) :
   PE X (.Call (.Attribute o m apos) (e :: es) [] pos) (tMeth C m sp [] E ta t) := by
 obtain ⟨f, fd, h1, h2, h3⟩ := M
 exact pe_meth ho c h1 h3 hr h2 .nil hx ha he hpl hc
theorem pe_mcal0 {X : Cx} {CX : CXT} {k : Nat} {C : Addr} {m : Str} {ps : List Str} {sp : Sp} {E : XK} {apos pos : Pos} {o : Expr} {ta : TE} (ho : PE X o ta) (c : Cls X.K C) (M : Mcal X.prog X.w X.K X.mg X.base CX k C m ps sp) (hr : Room k X.A) (hx : Passes CX X E)
   {pl : Sem Bool} (hc : eval (.Call (.Attribute o m apos) [] [] pos) X.env = (do
     let ov ← eval o X.env
     standAt apos.atName
     let (f, first) ← holding [ov] (getMethod ov m pl)
     callWith pos f first (backTo pos (starEach [] X.env)) (backToKw pos (keywordEach [] X.env))) := by rfl) :
   PE X (.Call (.Attribute o m apos) [] [] pos) (tMeth C m sp [] E ta tNil) := by
 obtain ⟨f, fd, h1, h2, h3⟩ := M
 exact pe_meth0 ho c h1 h3 hr h2 .nil hx hc
end L2
namespace Op
open PySem L2 PyProof.Rows
structure Chk where
 total : Int
 labels : List Str
 slots : List Str
 gates : List Str
 edits : List Str
structure Env0 where
 asks : List Str
 sigs : List Str
 we : Bool
def partFits (E : Env0) (code : Str) (d : PyData) : Bool :=
 if code = "a" then isWord d && decide (strOf d ∈ E.asks)
 else if code = "g" then isWord d && decide (strOf d ∈ E.sigs)
 else if code = "s" then isWord d && !decide (strOf d = "in")
 else if code = "m" ∨ code = "v" then areWords 3 d
 else if code = "b" then isList d
 else if code = "t" then isBranches d
 else isWord d
def idFits (c : Chk) (kind : Str) (parts : List PyData) : Bool :=
 if kind = "edit" then !decide (strOf (parts.headD .none) ∈ c.edits) && !decide (strOf (parts.headD .none) ∈ c.gates)
 else if kind = "gate" ∨ kind = "past" then !decide (strOf (parts.headD .none) ∈ c.edits)
 else true
def shapes : List (Str × Str) := [("ask", "al"), ("timer", "l"), ("await", "ls"), ("first", "ms"), ("drop", "l"), ("take", "gs"), ("note", "sv"), ("put", "sw"), ("if", "rwbb"), ("loop", "b"), ("leave", ""), ("part", "b"), ("both", "t"), ("gate", "ibb"), ("past", "ib"), ("edit", "ibb"), ("end", "r"), ("anew", "r")]
def putW (xs : List Str) (x : Str) : List Str := if x ∈ xs then xs else xs ++ [x]
structure RcA where
 C : Addr
 a : Addr
 dx : Addr
 ka : Addr
 ks : Addr
 l : Addr
 s : Addr
 g : Addr
 e : Addr
def dkT (xs : List Str) : List (Key × V) := xs.map fun x => (.inr x, .bl true)
theorem valV_dkT (x : Str) : ∀ xs : List Str, (valV (dkT xs) (.inr x)).isSome = decide (x ∈ xs)
 | [] => rfl
 | y :: r => by
   show (valV ((Sum.inr y, V.bl true) :: dkT r) (.inr x)).isSome = _
   by_cases e : y = x
   · rw [valV_pos (by rw [e])]; simp [e]
   · rw [valV_neg (fun q => e (Sum.inr.inj q)), valV_dkT x r]
     simp [Ne.symm e]
theorem dkT_put (xs : List Str) (x : Str) : putK (dkT xs) (.inr x) (.bl true) = dkT (putW xs x) := by
 unfold putW
 by_cases e : x ∈ xs
 · rw [if_pos e]
   unfold putK
   have h : ((dkT xs).any fun kv => decide (kv.1 = Sum.inr x)) = true := by rw [valV_any, valV_dkT]; exact decide_eq_true e
   rw [if_pos h]
   unfold dkT
   rw [List.map_map]
   refine List.map_congr_left fun y _ => ?_
   show (if (Sum.inr y : Key) = Sum.inr x then ((Sum.inr y : Key), V.bl true) else (Sum.inr y, V.bl true)) = _
   split <;> rfl
 · rw [if_neg e, putK_new _ (by
     have h := valV_dkT x xs
     rw [decide_eq_false e] at h
     cases q : valV (dkT xs) (.inr x) with
     | none => rfl
     | some v => rw [q] at h; cases h)]
   unfold dkT
   rw [List.map_append]
   rfl
theorem dkT_len (xs : List Str) : (dkT xs).length = xs.length := List.length_map _
def rcF (A : RcA) (E : Env0) (c : Chk) : List (Str × V) := [("known_asks", .ref A.ka), ("known_signals", .ref A.ks), ("with_edits", .bl E.we), ("total", .int c.total), ("label_words", .ref A.l), ("slot_words", .ref A.s), ("gate_words", .ref A.g), ("edit_words", .ref A.e)]
def Known (H : Hp) (p : Addr) (xs : List Str) : Prop := ∃ kvs, H p = some (.dK kvs) ∧ ∀ x, (valV kvs (.inr x)).isSome = decide (x ∈ xs)
structure RC (H : Hp) (A : RcA) (E : Env0) (c : Chk) : Prop where
 ob : H A.a = some (.ins A.C A.dx (rcF A E c))
 ka : Known H A.ka E.asks
 ks : Known H A.ks E.sigs
 dl : H A.l = some (.dK (dkT c.labels))
 ds : H A.s = some (.dK (dkT c.slots))
 dg : H A.g = some (.dK (dkT c.gates))
 de : H A.e = some (.dK (dkT c.edits))
 nd : [A.ka, A.l, A.s, A.g, A.e].Nodup
 nk : [A.ks, A.l, A.s, A.g, A.e].Nodup
structure RcC (K : PySem.W.Frag) (C : Addr) : Prop where
 cls : Cls K C
 n1 : NoAttr K C "known_asks"
 n2 : NoAttr K C "known_signals"
 n3 : NoAttr K C "with_edits"
 n4 : NoAttr K C "total"
 n5 : NoAttr K C "label_words"
 n6 : NoAttr K C "slot_words"
 n7 : NoAttr K C "gate_words"
 n8 : NoAttr K C "edit_words"
mutual
def wt : PyData → Nat
 | .str x => 1 + x.length
 | .list xs => 1 + wts xs
 | .tuple xs => 1 + wts xs
 | _ => 1
def wts : List PyData → Nat
 | [] => 0
 | x :: r => wt x + wts r
end
theorem wt_pos (d : PyData) : 1 ≤ wt d := by cases d <;> unfold wt <;> omega
theorem wts_len : ∀ ds : List PyData, ds.length ≤ wts ds
 | [] => Nat.le_refl _
 | d :: r => by
   have := wts_len r
   have := wt_pos d
   show r.length + 1 ≤ wt d + wts r
   omega
theorem wts_mem {d : PyData} : ∀ {ds : List PyData}, d ∈ ds → wt d ≤ wts ds
 | x :: r, h => by
   show _ ≤ wt x + wts r
   rcases List.mem_cons.mp h with rfl | h
   · omega
   · have := wts_mem h
     omega
mutual
theorem small_of : ∀ d : PyData, wt d ≤ 100000 → small d = true
 | .str x, h => by
   unfold wt at h
   exact decide_eq_true (by omega)
 | .list xs, h => by
   unfold wt at h
   have := wts_len xs
   unfold small
   rw [decide_eq_true (by omega : xs.length ≤ 100000), smalls_of xs (by omega)]
   rfl
 | .tuple xs, h => by
   unfold wt at h
   have := wts_len xs
   unfold small
   rw [decide_eq_true (by omega : xs.length ≤ 100000), smalls_of xs (by omega)]
   rfl
 | .none, _ => by unfold small; rfl
 | .bool _, _ => by unfold small; rfl
 | .int _, _ => by unfold small; rfl
 | .dict _, _ => by unfold small; rfl
theorem smalls_of : ∀ ds : List PyData, wts ds ≤ 100000 → smalls ds = true
 | [], _ => by unfold smalls; rfl
 | d :: r, h => by
   unfold wts at h
   unfold smalls
   rw [small_of d (by omega), smalls_of r (by omega)]
   rfl
end
section
variable {P : Program} {w : World} {K : PySem.W.Frag} {mg : Str → Option Value} {base : Heap}
def spPF (K : PySem.W.Frag) : Sp := fun vs H Q _ => ∃ (A : RcA) (E : Env0) (c : Chk) (x : Str) (v : V) (d : PyData), vs = [.ref A.a, .str x, v] ∧ RC H A E c ∧ RcC K A.C ∧ Dp K H v d ∧ wt d ≤ 100000 ∧ Q (.bl (partFits E x d)) H
theorem dec_strV {x y : Str} : decide (V.str x = V.str y) = decide (x = y) := by
 rw [Bool.eq_iff_iff]
 simp
theorem mono_str {v : V} {d : PyData} {K} {H : Hp} (h : Dp K H v d) (hw : isWord d = true) : v = .str (strOf d) := by
 cases h with
 | str x => rfl
 | _ => cases hw
theorem dget_known {H : Hp} {p : Addr} {kvs : List (Key × V)} {x : Str} (h : H p = some (.dK kvs)) : DGet H p (.str x) (valV kvs (.inr x)) := DGet.k (k := .inr x) h
theorem sc_RowCheck_part_fits : FnScope ["self", "code", "part"] ["self", "code", "part"] (defScope s_RowCheck_part_fits) := ⟨rfl, rfl, rfl, by decide +kernel, rfl, by decide +kernel, by decide +kernel⟩
theorem ok_part_fits {f : Addr} {fd : FuncData} (F : Fun K "part_fits" "RowCheck.part_fits" s_RowCheck_part_fits f fd) (T : Txt mg) (c_is_word : Cal P w K mg base CX0 1 "is_word" ["value"] (spWord K)) (c_are_words : Cal P w K mg base CX0 2 "are_words" ["value", "most"] (spAreWords K)) (c_is_branches : Cal P w K mg base CX0 1 "is_branches" ["value"] (spBr K)) :
   FnOk P w K mg base CX0 3 f fd ["self", "code", "part"] (spPF K) := by
 refine F.ok sc_RowCheck_part_fits (fun vs H Q E h => ?_) (fun cdv A outer s H vs Q E hr h => ?_)
 · obtain ⟨A, E, c, x, v, d, rfl, _⟩ := h
   rfl
 · obtain ⟨R, E0, c, x, v, d, rfl, O, rc, hd, hw, k⟩ := h
   have hu := hu_of hr
   have hs := small_of d hw
   have hsx : ∀ x, d = .str x → x.length ≤ 100000 := fun z e => small_str (by rw [← e]; exact hs)
   obtain ⟨ka, hka, pka⟩ := O.ka
   obtain ⟨ks, hks, pks⟩ := O.ks
   unfold partFits at k
   refine ⟨_, (pss_cons (ps_if (pt_cmpR op_eq (pv 1) pe_str (nomark _)) (pss_one (ps_ret (pe_and (pe_cal c_is_word (hr.mono (by omega)) rfl pass0 (pa_cons (pv 2) pa_nil)) (pe_one (pe_cmp (pc_din hu (pv 2) (pe_fld (pv 0) rfl))))))) pss_nil)
     (pss_cons (ps_if (pt_cmpR op_eq (pv 1) pe_str (nomark _)) (pss_one (ps_ret (pe_and (pe_cal c_is_word (hr.mono (by omega)) rfl pass0 (pa_cons (pv 2) pa_nil)) (pe_one (pe_cmp (pc_din hu (pv 2) (pe_fld (pv 0) rfl))))))) pss_nil)
     (pss_cons (ps_if (pt_cmpR op_eq (pv 1) pe_str (nomark _)) (pss_one (ps_ret (pe_and (pe_cal c_is_word (hr.mono (by omega)) rfl pass0 (pa_cons (pv 2) pa_nil)) (pe_one (pe_cmpR op_ne (pv 2) pe_str (nomark _)))))) pss_nil)
     (pss_cons (ps_if (PW.pt (pw_or (pt_cmpR op_eq (pv 1) pe_str (nomark _)) (pw_or1 (pt_cmpR op_eq (pv 1) pe_str (nomark _))))) (pss_one (ps_ret (pe_cal c_are_words (hr.mono (by omega)) rfl pass0 (pa_cons (pv 2) (pa_cons pe_int pa_nil))))) pss_nil)
     (pss_cons (ps_if (pt_cmpR op_eq (pv 1) pe_str (nomark _)) (pss_one (ps_ret (pe_callB call_isi (by rfl) T.b_isinstance (by decide +kernel) (pa_cons (pv 2) (pa_cons (pe_bltn (v := .ty "list") (by rfl) T.b_list (by decide +kernel) rfl) pa_nil))))) pss_nil)
     (pss_cons (ps_if (pt_cmpR op_eq (pv 1) pe_str (nomark _)) (pss_one (ps_ret (pe_cal c_is_branches (hr.mono (by omega)) rfl pass0 (pa_cons (pv 2) pa_nil)))) pss_nil)
     (pss_one (ps_ret (pe_cal c_is_word (hr.mono (by omega)) rfl pass0 (pa_cons (pv 2) pa_nil)))))))))), ?_⟩
   refine ⟨_, rfl, rfl, _, rfl, ?_⟩
   rw [dec_strV]
   by_cases e1 : x = "a"
   · rw [if_pos e1] at k
     refine ifT (decide_eq_true e1) ⟨_, rfl, v, d, rfl, hd, hsx, _, rfl, ?_⟩
     by_cases q : isWord d = true
     · rw [q] at k
       refine ifT q ?_
       obtain rfl := mono_str hd q
       refine ⟨_, rfl, _, rfl, _, _, _, _, _, rfl, O.ob, rc.cls, rc.n1, rfl, _, _, rfl, dget_known hka, ?_⟩
       rw [pka]
       exact k
     · rw [Bool.eq_false_iff.mpr q] at k
       exact ifF (Bool.eq_false_iff.mpr q) k
   · rw [if_neg e1] at k
     refine ifF (decide_eq_false e1) ⟨_, rfl, rfl, _, rfl, ?_⟩
     rw [dec_strV]
     by_cases e2 : x = "g"
     · rw [if_pos e2] at k
       refine ifT (decide_eq_true e2) ⟨_, rfl, v, d, rfl, hd, hsx, _, rfl, ?_⟩
       by_cases q : isWord d = true
       · rw [q] at k
         refine ifT q ?_
         obtain rfl := mono_str hd q
         refine ⟨_, rfl, _, rfl, _, _, _, _, _, rfl, O.ob, rc.cls, rc.n2, rfl, _, _, rfl, dget_known hks, ?_⟩
         rw [pks]
         exact k
       · rw [Bool.eq_false_iff.mpr q] at k
         exact ifF (Bool.eq_false_iff.mpr q) k
     · rw [if_neg e2] at k
       refine ifF (decide_eq_false e2) ⟨_, rfl, rfl, _, rfl, ?_⟩
       rw [dec_strV]
       by_cases e3 : x = "s"
       · rw [if_pos e3] at k
         refine ifT (decide_eq_true e3) ⟨_, rfl, v, d, rfl, hd, hsx, _, rfl, ?_⟩
         by_cases q : isWord d = true
         · rw [q] at k
           refine ifT q ?_
           obtain rfl := mono_str hd q
           refine ⟨_, rfl, rfl, ?_⟩
           rw [dec_strV]
           exact k
         · rw [Bool.eq_false_iff.mpr q] at k
           exact ifF (Bool.eq_false_iff.mpr q) k
       · rw [if_neg e3] at k
         refine ifF (decide_eq_false e3) ⟨_, rfl, rfl, _, rfl, ?_⟩
         rw [dec_strV]
         by_cases e4 : x = "m" ∨ x = "v"
         · rw [if_pos e4] at k
           by_cases e5 : x = "m"
           · refine ifT (decide_eq_true e5) ?_
             refine ifT rfl ⟨_, rfl, v, d, 3, rfl, hd, hs, by decide, k⟩
           · refine ifF (decide_eq_false e5) ⟨_, rfl, rfl, _, rfl, ?_⟩
             rw [dec_strV]
             refine ifT (decide_eq_true (e4.resolve_left e5)) ⟨_, rfl, v, d, 3, rfl, hd, hs, by decide, k⟩
         · rw [if_neg e4] at k
           refine ifF (decide_eq_false fun h => e4 (.inl h)) ⟨_, rfl, rfl, _, rfl, ?_⟩
           rw [dec_strV]
           refine ifF (decide_eq_false fun h => e4 (.inr h)) ⟨_, rfl, rfl, _, rfl, ?_⟩
           rw [dec_strV]
           by_cases e6 : x = "b"
           · rw [if_pos e6] at k
             exact ifT (decide_eq_true e6) ⟨_, rfl, v, _, _, _, _, rfl, .ty _, ty_dp hd, kit_list d, k⟩
           · rw [if_neg e6] at k
             refine ifF (decide_eq_false e6) ⟨_, rfl, rfl, _, rfl, ?_⟩
             rw [dec_strV]
             by_cases e7 : x = "t"
             · rw [if_pos e7] at k
               exact ifT (decide_eq_true e7) ⟨_, rfl, v, d, rfl, hd, k⟩
             · rw [if_neg e7] at k
               exact ifF (decide_eq_false e7) ⟨_, rfl, v, d, rfl, hd, hsx, k⟩
end
end Op
namespace L2
open PySem PySem.Spec PyProof.Rows
def seqO : HO → Bool
 | .lst _ => true
 | .tup _ => true
 | .frz _ _ => true
 | _ => false
def Kp (H H' : Hp) : Prop := ∀ b o, H b = some o → seqO o = true → H' b = some o
def Fr (L : List Addr) (H H' : Hp) : Prop := ∀ b o, H b = some o → b ∉ L → H' b = some o
theorem Same.kp {H H' : Hp} (s : Same H H') : Kp H H' := fun b o h _ => s b o h
theorem Same.fr {L : List Addr} {H H' : Hp} (s : Same H H') : Fr L H H' := fun b o h _ => s b o h
theorem Fr.refl {L : List Addr} {H : Hp} : Fr L H H := fun _ _ h _ => h
theorem Fr.trans {L : List Addr} {H H' H'' : Hp} (a : Fr L H H') (b : Fr L H' H'') : Fr L H H'' := fun c o h n => b c o (a c o h n) n
theorem Fr.upd {L : List Addr} {H H' : Hp} {a : Addr} {o : HO} (f : Fr L H H') (h : a ∈ L) : Fr L H (upd H' a o) := fun b u e n => by
 have q : b ≠ a := fun q => n (by rw [q]; exact h)
 rw [L2.upd_ne q]
 exact f b u e n
theorem Same.new {H : Hp} {a : Addr} {o : HO} (h : H a = none) : Same H (upd H a o) := fun b u e => by rw [upd_ne (ne_of_none e h)]; exact e
theorem Kp.trans {H H' H'' : Hp} (a : Kp H H') (b : Kp H' H'') : Kp H H'' := fun c o h n => b c o (a c o h n) n
theorem SqL.kp {K : PySem.W.Frag} {H H' : Hp} {a : Addr} {xs : List V} (h : SqL K H a xs) (s : Kp H H') : SqL K H' a xs := by
 rcases h with (h | ⟨o, h⟩) | h
 · exact .inl (.inl (s _ _ h rfl))
 · exact .inl (.inr ⟨o, s _ _ h rfl⟩)
 · exact .inr h
theorem SqT.kp {K : PySem.W.Frag} {H H' : Hp} {a : Addr} {xs : List V} (h : SqT K H a xs) (s : Kp H H') : SqT K H' a xs := by
 rcases h with (h | ⟨o, h⟩) | h
 · exact .inl (.inl (s _ _ h rfl))
 · exact .inl (.inr ⟨o, s _ _ h rfl⟩)
 · exact .inr h
mutual
theorem Dp.kp {K : PySem.W.Frag} {H H' : Hp} (s : Kp H H') : ∀ {v : V} {d : PyData}, Dp K H v d → Dp K H' v d
 | _, _, .non => .non
 | _, _, .bl b => .bl b
 | _, _, .int i => .int i
 | _, _, .str x => .str x
 | _, _, .lst h a => .lst (h.kp s) (DpAll.kp s a)
 | _, _, .tup h a => .tup (h.kp s) (DpAll.kp s a)
theorem DpAll.kp {K : PySem.W.Frag} {H H' : Hp} (s : Kp H H') : ∀ {vs : List V} {ds : List PyData}, DpAll K H vs ds → DpAll K H' vs ds
 | _, _, .nil => .nil
 | _, _, .cons h a => .cons (Dp.kp s h) (DpAll.kp s a)
end
end L2
namespace Op
open PySem L2 PyProof.Rows
def RcA.L (A : RcA) : List Addr := [A.a, A.l, A.s, A.g, A.e]
section
variable {H H' : Hp} {A : RcA} {E : Env0} {c : Chk}
theorem RC.kp (O : RC H A E c) (f : Fr A.L H H') : Kp H H' := fun b o h n => f b o h fun m => by
 have : b = A.a ∨ b = A.l ∨ b = A.s ∨ b = A.g ∨ b = A.e := by simpa [RcA.L] using m
 rcases this with rfl | rfl | rfl | rfl | rfl
 · rw [O.ob] at h; cases h; cases n
 · rw [O.dl] at h; cases h; cases n
 · rw [O.ds] at h; cases h; cases n
 · rw [O.dg] at h; cases h; cases n
 · rw [O.de] at h; cases h; cases n
theorem Known.mono {p : Addr} {xs : List Str} (h : Known H p xs) (s : ∀ o, H p = some o → H' p = some o) : Known H' p xs := let ⟨kvs, h1, h2⟩ := h; ⟨kvs, s _ h1, h2⟩
theorem RC.mono (O : RC H A E c) (s : Same H H') : RC H' A E c := ⟨s _ _ O.ob, O.ka.mono (s _), O.ks.mono (s _), s _ _ O.dl, s _ _ O.ds, s _ _ O.dg, s _ _ O.de, O.nd, O.nk⟩
theorem Known.ne_ins {p a C dx : Addr} {fs : List (Str × V)} {xs : List Str} (h : Known H p xs) (e : H a = some (.ins C dx fs)) : p ≠ a := fun q => by
 obtain ⟨kvs, h1, _⟩ := h
 rw [q, e] at h1
 cases h1
theorem RC.nes (O : RC H A E c) : A.a ≠ A.l ∧ A.a ≠ A.s ∧ A.a ≠ A.g ∧ A.a ≠ A.e ∧ A.a ≠ A.ka ∧ A.a ≠ A.ks :=
 ⟨ne_of O.ob O.dl nofun, ne_of O.ob O.ds nofun, ne_of O.ob O.dg nofun, ne_of O.ob O.de nofun, (O.ka.ne_ins O.ob).symm, (O.ks.ne_ins O.ob).symm⟩
theorem RC.nds (O : RC H A E c) : (A.ka ≠ A.l ∧ A.ka ≠ A.s ∧ A.ka ≠ A.g ∧ A.ka ≠ A.e) ∧ (A.ks ≠ A.l ∧ A.ks ≠ A.s ∧ A.ks ≠ A.g ∧ A.ks ≠ A.e) ∧ A.l ≠ A.s ∧ A.l ≠ A.g ∧ A.l ≠ A.e ∧ A.s ≠ A.g ∧ A.s ≠ A.e ∧ A.g ≠ A.e := by
 have h1 := O.nd
 have h2 := O.nk
 simp [List.nodup_cons] at h1 h2
 obtain ⟨⟨a1, a2, a3, a4⟩, ⟨b1, b2, b3⟩, ⟨c1, c2⟩, d1⟩ := h1
 obtain ⟨⟨e1, e2, e3, e4⟩, _⟩ := h2
 exact ⟨⟨a1, a2, a3, a4⟩, ⟨e1, e2, e3, e4⟩, b1, b2, b3, c1, c2, d1⟩
theorem RC.put_l (O : RC H A E c) (x : Str) : RC (upd H A.l (.dK (dkT (putW c.labels x)))) A E { c with labels := putW c.labels x } := by
 obtain ⟨a1, a2, a3, a4, a5, a6⟩ := O.nes
 obtain ⟨⟨k1, k2, k3, k4⟩, ⟨s1, s2, s3, s4⟩, b1, b2, b3, b4, b5, b6⟩ := O.nds
 exact ⟨by rw [upd_ne a1]; exact O.ob, O.ka.mono fun o h => by rw [upd_ne k1]; exact h, O.ks.mono fun o h => by rw [upd_ne s1]; exact h, upd_same, by rw [upd_ne b1.symm]; exact O.ds, by rw [upd_ne b2.symm]; exact O.dg, by rw [upd_ne b3.symm]; exact O.de, O.nd, O.nk⟩
theorem RC.put_s (O : RC H A E c) (x : Str) : RC (upd H A.s (.dK (dkT (putW c.slots x)))) A E { c with slots := putW c.slots x } := by
 obtain ⟨a1, a2, a3, a4, a5, a6⟩ := O.nes
 obtain ⟨⟨k1, k2, k3, k4⟩, ⟨s1, s2, s3, s4⟩, b1, b2, b3, b4, b5, b6⟩ := O.nds
 exact ⟨by rw [upd_ne a2]; exact O.ob, O.ka.mono fun o h => by rw [upd_ne k2]; exact h, O.ks.mono fun o h => by rw [upd_ne s2]; exact h, by rw [upd_ne b1]; exact O.dl, upd_same, by rw [upd_ne b4.symm]; exact O.dg, by rw [upd_ne b5.symm]; exact O.de, O.nd, O.nk⟩
theorem RC.put_g (O : RC H A E c) (x : Str) : RC (upd H A.g (.dK (dkT (putW c.gates x)))) A E { c with gates := putW c.gates x } := by
 obtain ⟨a1, a2, a3, a4, a5, a6⟩ := O.nes
 obtain ⟨⟨k1, k2, k3, k4⟩, ⟨s1, s2, s3, s4⟩, b1, b2, b3, b4, b5, b6⟩ := O.nds
 exact ⟨by rw [upd_ne a3]; exact O.ob, O.ka.mono fun o h => by rw [upd_ne k3]; exact h, O.ks.mono fun o h => by rw [upd_ne s3]; exact h, by rw [upd_ne b2]; exact O.dl, by rw [upd_ne b4]; exact O.ds, upd_same, by rw [upd_ne b6.symm]; exact O.de, O.nd, O.nk⟩
theorem RC.put_e (O : RC H A E c) (x : Str) : RC (upd H A.e (.dK (dkT (putW c.edits x)))) A E { c with edits := putW c.edits x } := by
 obtain ⟨a1, a2, a3, a4, a5, a6⟩ := O.nes
 obtain ⟨⟨k1, k2, k3, k4⟩, ⟨s1, s2, s3, s4⟩, b1, b2, b3, b4, b5, b6⟩ := O.nds
 exact ⟨by rw [upd_ne a4]; exact O.ob, O.ka.mono fun o h => by rw [upd_ne k4]; exact h, O.ks.mono fun o h => by rw [upd_ne s4]; exact h, by rw [upd_ne b3]; exact O.dl, by rw [upd_ne b5]; exact O.ds, by rw [upd_ne b6]; exact O.dg, upd_same, O.nd, O.nk⟩
theorem RC.tot (O : RC H A E c) (n : Int) : RC (upd H A.a (.ins A.C A.dx (rcF A E { c with total := n }))) A E { c with total := n } := by
 obtain ⟨a1, a2, a3, a4, a5, a6⟩ := O.nes
 exact ⟨upd_same, O.ka.mono fun o h => by rw [upd_ne a5.symm]; exact h, O.ks.mono fun o h => by rw [upd_ne a6.symm]; exact h, by rw [upd_ne a1.symm]; exact O.dl, by rw [upd_ne a2.symm]; exact O.ds, by rw [upd_ne a3.symm]; exact O.dg, by rw [upd_ne a4.symm]; exact O.de, O.nd, O.nk⟩
theorem dput_w {p : Addr} {xs : List Str} {x : Str} (h : H p = some (.dK (dkT xs))) (hl : xs.length < sizeLine) : DPut H p (.str x) (.bl true) (upd H p (.dK (dkT (putW xs x)))) := by
 rw [← dkT_put]
 exact DPut.k (k := .inr x) h (by rw [dkT_len]; exact hl)
theorem putW_len (xs : List Str) (x : Str) : (putW xs x).length ≤ xs.length + 1 := by
 unfold putW
 split
 · omega
 · simp
end
section
variable {P : Program} {w : World} {K : PySem.W.Frag} {mg : Str → Option Value} {base : Heap}
def spID (K : PySem.W.Frag) : Sp := fun vs H Q _ => ∃ (A : RcA) (E : Env0) (c : Chk) (t : Addr) (kind : Str) (parts : List PyData), vs = [.ref A.a, .ref t] ∧ RC H A E c ∧ RcC K A.C ∧ Dp K H (.ref t) (.tuple (.str kind :: parts)) ∧
 (kind = "edit" ∨ kind = "gate" ∨ kind = "past" → ∃ x r, parts = .str x :: r) ∧ ∀ H', Same H H' → Q (.bl (idFits c kind parts)) H'
theorem sz_lit {n : Nat} (h : n ≤ 100000) : n ≤ sizeLine := Evl.sz_of h
theorem inV2 (x a b : Str) : inV (.str x) [.str a, .str b] = decide (x = a ∨ x = b) := by
 show (eqV (.str a) (.str x) || (eqV (.str b) (.str x) || false)) = _
 have e : ∀ y : Str, eqV (.str y) (.str x) = decide (x = y) := fun y => by
   show (y == x) = _
   by_cases q : x = y
   · rw [decide_eq_true q, q]; simp
   · rw [decide_eq_false q]; simpa using Ne.symm q
 rw [e, e, Bool.or_false, Bool.eq_iff_iff]
 simp
theorem atI_zero {α : Type} (x : α) (r : List α) : atI (x :: r) 0 = some x := by
 unfold atI ixN
 rw [if_pos (Int.le_refl _), if_pos (by simp only [List.length_cons]; omega)]
 rfl
theorem atI_one {α : Type} (x y : α) (r : List α) : atI (x :: y :: r) 1 = some y := by
 unfold atI ixN
 rw [if_pos (by decide), if_pos (by simp only [List.length_cons]; omega)]
 rfl
theorem sc_RowCheck_id_fits : FnScope ["self", "row"] ["self", "row"] (defScope s_RowCheck_id_fits) := ⟨rfl, rfl, rfl, by decide +kernel, rfl, by decide +kernel, by decide +kernel⟩
theorem ok_id_fits {f : Addr} {fd : FuncData} (F : Fun K "id_fits" "RowCheck.id_fits" s_RowCheck_id_fits f fd) : FnOk P w K mg base CX0 1 f fd ["self", "row"] (spID K) := by
 refine F.ok sc_RowCheck_id_fits (fun vs H Q E h => ?_) (fun cdv A outer s H vs Q E hr h => ?_)
 · obtain ⟨A, E, c, t, kind, parts, rfl, _⟩ := h
   rfl
 · obtain ⟨R, E0, c, t, kind, parts, rfl, O, rc, hd, hp, k⟩ := h
   have hu := hu_of hr
   cases hd with
   | @tup _ xs _ hq ha =>
   cases ha with
   | @cons v0 _ vr _ h0 hr0 =>
   cases h0 with
   | str kind =>
   unfold idFits at k
   refine ⟨_, (pss_cons (ps_if (pt_cmpR op_eq (pe_ix ix_tup (pv 1) pe_int (fun _ _ => rfl)) pe_str (nomark _)) (pss_one (ps_ret (pe_and (pe_cmp (pc_dnotin hu (pe_ix ix_tup (pv 1) pe_int (fun _ _ => rfl)) (pe_fld (pv 0) rfl))) (pe_one (pe_cmp (pc_dnotin hu (pe_ix ix_tup (pv 1) pe_int (fun _ _ => rfl)) (pe_fld (pv 0) rfl))))))) pss_nil)
     (pss_cons (ps_if (pt_cmpR op_in_seq (pe_ix ix_tup (pv 1) pe_int (fun _ _ => rfl)) (pe_tup (pa_cons pe_str (pa_cons pe_str pa_nil))) (by rfl)) (pss_one (ps_ret (pe_cmp (pc_dnotin hu (pe_ix ix_tup (pv 1) pe_int (fun _ _ => rfl)) (pe_fld (pv 0) rfl))))) pss_nil)
     (pss_one (ps_ret pe_bl)))), ?_⟩
   refine ⟨_, rfl, t, _, 0, _, rfl, rfl, hq, atI_zero _ _, rfl, _, rfl, ?_⟩
   rw [dec_strV]
   by_cases e1 : kind = "edit"
   · obtain ⟨x, r, rfl⟩ := hp (.inl e1)
     cases hr0 with
     | @cons v1 _ vr _ h1 _ =>
     cases h1 with
     | str x =>
     rw [if_pos e1] at k
     refine ifT (decide_eq_true e1) ?_
     refine ⟨_, rfl, t, _, 1, _, rfl, rfl, hq, atI_one _ _ _, _, rfl, _, _, _, _, _, rfl, O.ob, rc.cls, rc.n8, rfl, _, _, rfl, dget_known O.de, _, rfl, ?_⟩
     rw [valV_dkT]
     by_cases q : x ∈ c.edits
     · rw [decide_eq_true q]
       refine ifF rfl ?_
       have := k H (Same.refl H)
       rw [show (PyData.str x :: r).headD PyData.none = .str x from rfl] at this
       rw [show strOf (.str x) = x from rfl, decide_eq_true q] at this
       exact this
     · rw [decide_eq_false q]
       refine ifT rfl ?_
       refine ⟨_, rfl, t, _, 1, _, rfl, rfl, hq, atI_one _ _ _, _, rfl, _, _, _, _, _, rfl, O.ob, rc.cls, rc.n7, rfl, _, _, rfl, dget_known O.dg, ?_⟩
       rw [valV_dkT]
       have := k H (Same.refl H)
       rw [show (PyData.str x :: r).headD PyData.none = .str x from rfl] at this
       rw [show strOf (.str x) = x from rfl, decide_eq_false q] at this
       exact this
   · rw [if_neg e1] at k
     refine ifF (decide_eq_false e1) ?_
     refine ⟨_, rfl, t, _, 0, _, rfl, rfl, hq, atI_zero _ _, sz_lit (by decide), fun p hp0 => ⟨p, _, rfl, .inr (.inl (.inl upd_same)), rfl, rfl, _, rfl, ?_⟩⟩
     rw [inV2]
     have sm : Same H (upd H p (.tup [.str "gate", .str "past"])) := Same.new hp0
     by_cases e2 : kind = "gate" ∨ kind = "past"
     · rw [if_pos e2] at k
       refine ifT (decide_eq_true e2) ?_
       obtain ⟨x, r, rfl⟩ := hp (.inr e2)
       cases hr0 with
       | @cons v1 _ vr _ h1 _ =>
       cases h1 with
       | str x =>
       refine ⟨_, rfl, t, _, 1, _, rfl, rfl, hq.mono sm, atI_one _ _ _, _, rfl, _, _, _, _, _, rfl, sm _ _ O.ob, rc.cls, rc.n8, rfl, _, _, rfl, dget_known (sm _ _ O.de), ?_⟩
       rw [valV_dkT]
       exact k _ sm
     · rw [if_neg e2] at k
       refine ifF (decide_eq_false e2) ?_
       exact k _ sm
end
end Op
namespace Op
open PySem L2 PyProof.Rows
def colPart (kind : Str) (c : Chk) (code : Str) (d : PyData) : Chk :=
 if code = "l" then { c with labels := putW c.labels (strOf d) }
 else if code = "m" then { c with labels := (match d with | .tuple ds => (ds.map strOf).foldl putW c.labels | _ => c.labels) }
 else if (code = "s" ∨ code = "r") ∧ ¬ strOf d = "in" then { c with slots := putW c.slots (strOf d) }
 else if code = "i" ∧ kind = "edit" then { c with edits := putW c.edits (strOf d) }
 else if code = "i" then { c with gates := putW c.gates (strOf d) }
 else c
def collect (c : Chk) (kind sh : Str) (parts : List PyData) : Chk := (sh.cps.toList.zip parts).foldl (fun c p => colPart kind c ⟨#[p.1]⟩ p.2) c
def colN (c : Chk) (kind sh : Str) (parts : List PyData) (i : Nat) : Chk := ((sh.cps.toList.zip parts).take i).foldl (fun c p => colPart kind c ⟨#[p.1]⟩ p.2) c
theorem colN_all {c : Chk} {kind sh : Str} {parts : List PyData} (h : sh.cps.size = parts.length) : colN c kind sh parts parts.length = collect c kind sh parts := by
 unfold colN collect
 rw [List.take_of_length_le (by rw [List.length_zip, Array.length_toList]; omega)]
theorem colN_succ {c : Chk} {kind sh : Str} {parts : List PyData} {i ch : Nat} {d : PyData} (h1 : sh.cps[i]? = some ch) (h2 : parts[i]? = some d) : colN c kind sh parts (i + 1) = colPart kind (colN c kind sh parts i) ⟨#[ch]⟩ d := by
 unfold colN
 have h : (sh.cps.toList.zip parts)[i]? = some (ch, d) := by
   rw [List.getElem?_zip_eq_some]
   exact ⟨by rw [Array.getElem?_toList]; exact h1, h2⟩
 rw [TS.take_one h, List.foldl_append]
 rfl
def Cap (c : Chk) (n : Nat) : Prop := c.labels.length ≤ n ∧ c.slots.length ≤ n ∧ c.gates.length ≤ n ∧ c.edits.length ≤ n
theorem Cap.mono {c : Chk} {m n : Nat} (h : Cap c m) (e : m ≤ n) : Cap c n := ⟨by have := h.1; omega, by have := h.2.1; omega, by have := h.2.2.1; omega, by have := h.2.2.2; omega⟩
theorem foldW_len : ∀ (ys xs : List Str), (ys.foldl putW xs).length ≤ xs.length + ys.length
 | [], xs => Nat.le_refl _
 | y :: r, xs => by
   have := foldW_len r (putW xs y)
   have := putW_len xs y
   show (r.foldl putW (putW xs y)).length ≤ _
   rw [List.length_cons]
   omega
section
variable {E : Env0} {d : PyData}
theorem pf_word {x : Str} (h : partFits E x d = true) (n : ¬ (x = "m" ∨ x = "v") ∧ ¬ x = "b" ∧ ¬ x = "t") : isWord d = true := by
 unfold partFits at h
 rw [if_neg n.1, if_neg n.2.1, if_neg n.2.2] at h
 split at h
 · exact (Bool.and_eq_true_iff.mp h).1
 · split at h
   · exact (Bool.and_eq_true_iff.mp h).1
   · split at h
     · exact (Bool.and_eq_true_iff.mp h).1
     · exact h
theorem pf_m (h : partFits E "m" d = true) : areWords 3 d = true := h
theorem aw_tup {m : Int} (h : areWords m d = true) : ∃ zs : List Str, d = .tuple (zs.map PyData.str) ∧ (zs.length : Int) ≤ m ∧ (∀ z ∈ zs, isWordS z = true) ∧ zs.Nodup ∧ 1 ≤ zs.length := by
 cases d with
 | tuple ds =>
   obtain ⟨h1, h2⟩ := Bool.and_eq_true_iff.mp h
   obtain ⟨h3, h4⟩ := Bool.and_eq_true_iff.mp h2
   have h1 := of_decide_eq_true h1
   have h4 := of_decide_eq_true h4
   have key : ∀ ds : List PyData, ds.all isWord = true → ∃ zs : List Str, ds = zs.map PyData.str ∧ ∀ z ∈ zs, isWordS z = true := by
     intro ds
     induction ds with
     | nil => exact fun _ => ⟨[], rfl, fun _ h => by cases h⟩
     | cons d r ih =>
       intro h
       obtain ⟨a, b⟩ := Bool.and_eq_true_iff.mp h
       obtain ⟨zs, e, p⟩ := ih b
       cases d with
       | str x => exact ⟨x :: zs, by rw [e]; rfl, fun z hz => by
           rcases List.mem_cons.mp hz with rfl | hz
           · exact a
           · exact p z hz⟩
       | _ => cases a
   obtain ⟨zs, rfl, p⟩ := key ds h3
   have e1 : (zs.map PyData.str).map strOf = zs := by
     rw [List.map_map]
     have : (strOf ∘ PyData.str) = id := by funext z; rfl
     rw [this, List.map_id]
   rw [e1] at h4
   rw [List.length_map] at h1
   exact ⟨zs, rfl, h1.2, p, h4, h1.1⟩
 | _ => cases h
end
theorem map_strOf (zs : List Str) : (zs.map PyData.str).map strOf = zs := by
 rw [List.map_map]
 have : (strOf ∘ PyData.str) = id := by funext z; rfl
 rw [this, List.map_id]
structure TxtC (P : Program) (w : World) (K : PySem.W.Frag) (mg : Str → Option Value) (pS CI : Addr) : Prop extends Txt mg where
 g_SHAPES : mg "SHAPES" = some (.ref pS)
 w_SHAPES : WTab K w pS (shapes.map fun p => (p.1, .str p.2))
 g_MOST_ROWS : ∃ t, mg "MOST_ROWS" = some (.int 60 t)
 g_MOST_LABELS : ∃ t, mg "MOST_LABELS" = some (.int 6 t)
 g_MOST_SLOTS : ∃ t, mg "MOST_SLOTS" = some (.int 4 t)
 g_MOST_GATES : ∃ t, mg "MOST_GATES" = some (.int 8 t)
 g_MOST_EDITS : ∃ t, mg "MOST_EDITS" = some (.int 4 t)
 g_DEEPEST : ∃ t, mg "DEEPEST_checks" = some (.int 5 t)
 g_InvalidProgram : mg "InvalidProgram" = some (.ref CI)
 k_InvalidProgram : PySem.W.keepIn K (.ref CI) = true
 mk_InvalidProgram : XMk P w K CI 2 [] (fun vs _ => [("path", vs.getD 1 .non), ("part", vs.getD 0 .non)])
 r_InvalidProgram : ∀ (M : Model) (h : Heap), K.In h → PySem.W.Looks M h (isSubtype (.ref CI) (.type "BaseException")) true ∧ PySem.W.Looks M h (typeOf (.ref CI)) (.type "type")
theorem shapes_look (x : Str) : (shapes.map fun p => (p.1, V.str p.2)).lookup x = (shapes.lookup x).map V.str := by
 generalize shapes = l
 induction l with
 | nil => rfl
 | cons p r ih =>
   obtain ⟨a, b⟩ := p
   simp only [List.map_cons, List.lookup_cons]
   cases x == a with
   | true => rfl
   | false => exact ih
theorem lt_sz {n : Nat} (h : n < 100000) : n < sizeLine := Nat.lt_of_lt_of_le h (sz_lit (Nat.le_refl _))
theorem cut1 (v : V) (r : List V) : cutV (v :: r) (some 1) none = r := by
 unfold cutV
 rw [HT.sIx_none, show (1 : Int) = ((1 : Nat) : Int) from rfl, HT.sIx_nat, List.length_cons, show min 1 (r.length + 1) = 1 by omega]
 show r.take (r.length + 1 - 1) = r
 rw [List.take_of_length_le (by omega)]
theorem cut1n (v : V) (r : List V) : ¬ (HT.sIx (v :: r).length 0 (some 1) = 0 ∧ HT.sIx (v :: r).length (v :: r).length none = (v :: r).length) := by
 rw [show (1 : Int) = ((1 : Nat) : Int) from rfl, HT.sIx_nat, List.length_cons]
 omega
section
variable {P : Program} {w : World} {K : PySem.W.Frag} {mg : Str → Option Value} {base : Heap} {pS CI : Addr}
def Fitted (E : Env0) (sh : Str) (parts : List PyData) : Prop := sh.cps.size = parts.length ∧ ∀ (i ch : Nat) (d : PyData), sh.cps[i]? = some ch → parts[i]? = some d → partFits E ⟨#[ch]⟩ d = true
def spCol (K : PySem.W.Frag) : Sp := fun vs H Q _ => ∃ (A : RcA) (E : Env0) (c : Chk) (t : Addr) (kind sh : Str) (parts : List PyData), vs = [.ref A.a, .ref t] ∧ RC H A E c ∧ RcC K A.C ∧ Dp K H (.ref t) (.tuple (.str kind :: parts)) ∧
 shapes.lookup kind = some sh ∧ Fitted E sh parts ∧ parts.length ≤ 100 ∧ Cap c 90000 ∧ ∀ H', Fr A.L H H' → RC H' A E (collect c kind sh parts) → Q .non H'
theorem sc_RowCheck_collect : FnScope ["self", "row", "code", "part", "label"] ["self", "row"] (defScope s_RowCheck_collect) := ⟨rfl, rfl, rfl, by decide +kernel, rfl, by decide +kernel, by decide +kernel⟩
theorem ok_collect {f : Addr} {fd : FuncData} (F : Fun K "collect" "RowCheck.collect" s_RowCheck_collect f fd) (T : TxtC P w K mg pS CI) : FnOk P w K mg base CX0 1 f fd ["self", "row"] (spCol K) := by
 refine F.ok sc_RowCheck_collect (fun vs H Q E h => ?_) (fun cdv A outer s H vs Q E hr h => ?_)
 · obtain ⟨A, E, c, t, kind, sh, parts, rfl, _⟩ := h
   rfl
 · obtain ⟨R, E0, c, t, kind, sh, parts, rfl, O, rc, hd, hsh, ⟨hlen, hfit⟩, hpl, hcap, k⟩ := h
   have hu := hu_of hr
   cases hd with
   | @tup _ xs _ hq ha =>
   cases ha with
   | @cons v0 vr d0 dr h0 hr0 =>
   cases h0 with
   | str kind =>
   have hvl := hr0.len
   refine ⟨_, (pss_one (ps_for PassesOwn.never rfl (pi_zipS (by rfl) T.b_zip (pa_cons (pe_ix ix_wtab (pe_gref rfl T.g_SHAPES) (pe_ix ix_tup (pv 1) pe_int (fun _ _ => rfl)) (fun _ _ => rfl)) (pa_cons (pe_slice sl_tupA (pv 1) (po_some pe_int) po_none) pa_nil))) (pg_tup rfl (pgs_cons (pg_name (i := 2) sc_RowCheck_collect.nd rfl (.inl rfl)) (pgs_cons (pg_name (i := 3) sc_RowCheck_collect.nd rfl (.inl rfl)) pgs_nil))) (pss_one (ps_if (pt_cmpR op_eq (pv 2) pe_str (nomark _)) (pss_one (ps_dput hu (pe_fld (pv 0) rfl) (pv 3) pe_bl rfl)) (pss_one (ps_if (pt_cmpR op_eq (pv 2) pe_str (nomark _)) (pss_one (ps_for PassesOwn.never rfl (pi_tup (pv 3)) (pg_name (i := 4) sc_RowCheck_collect.nd rfl (.inl rfl)) (pss_one (ps_dput hu (pe_fld (pv 0) rfl) (pv 4) pe_bl rfl)))) (pss_one (ps_if (PW.pt (pw_and (pt_cmpR op_in_seq (pv 2) (pe_tup (pa_cons pe_str (pa_cons pe_str pa_nil))) (by rfl)) (pw_and1 (pt_cmpR op_ne (pv 3) pe_str (nomark _))))) (pss_one (ps_dput hu (pe_fld (pv 0) rfl) (pv 3) pe_bl rfl)) (pss_one (ps_if (PW.pt (pw_and (pt_cmpR op_eq (pv 2) pe_str (nomark _)) (pw_and1 (pt_cmpR op_eq (pe_ix ix_tup (pv 1) pe_int (fun _ _ => rfl)) pe_str (nomark _))))) (pss_one (ps_dput hu (pe_fld (pv 0) rfl) (pv 3) pe_bl rfl)) (pss_one (ps_if (pt_cmpR op_eq (pv 2) pe_str (nomark _)) (pss_one (ps_dput hu (pe_fld (pv 0) rfl) (pv 3) pe_bl rfl)) pss_nil)))))))))))), ?_⟩
   refine ⟨_, rfl, t, _, 0, _, rfl, rfl, hq, atI_zero _ _, pS, kind, _, .str sh, rfl, rfl, T.w_SHAPES, by rw [shapes_look, hsh]; rfl, ?_⟩
   refine ⟨_, rfl, 1, rfl, t, _, rfl, hq, fun z => absurd z (cut1n _ _), fun _ p hp => ?_⟩
   rw [cut1]
   have sm : Same H (upd H p (.tup vr)) := Same.new hp
   refine ⟨sh, p, vr, rfl, .inl (.inl upd_same), ?_⟩
   refine for_zipS (by omega) (fun i σ H' => (∃ y2 y3 y4 : Option V, σ = [some (.ref R.a), some (.ref t), y2, y3, y4]) ∧ RC H' R E0 (colN c kind sh parts i) ∧ Fr R.L (upd H p (.tup vr)) H' ∧ Cap (colN c kind sh parts i) (90000 + 3 * i)) ⟨⟨_, _, _, rfl⟩, O.mono sm, Fr.refl, hcap⟩ (fun i σ H' q => SqT.kp (.inl (.inl upd_same)) ((O.mono sm).kp q.2.2.1)) ?_ ?_
   · rintro i ch y T0 σ H' h1 h2 ⟨⟨y2, y3, y4, rfl⟩, O1, fr1, cap1⟩ hT0
     obtain ⟨d, h3, hdy⟩ := hr0.get h2
     have hf := hfit i ch d h1 h3
     have hi : i < 100 := by
       have := (List.getElem?_eq_some_iff.mp h3).1
       omega
     have hdy1 : Dp K H' y d := hdy.kp (sm.kp.trans ((O.mono sm).kp fr1))
     refine ⟨T0, _, rfl, .inl (.inl upd_same), rfl, ?_⟩
     have sm1 : Same H' (upd H' T0 (.tup [.str ⟨#[ch]⟩, y])) := Same.new hT0
     have O2 := O1.mono sm1
     have fr2 : Fr R.L (upd H p (.tup vr)) (upd H' T0 (.tup [.str ⟨#[ch]⟩, y])) := fr1.trans sm1.fr
     have hdy2 : Dp K (upd H' T0 (.tup [.str ⟨#[ch]⟩, y])) y d := hdy1.kp sm1.kp
     rw [colN_succ h1 h3]
     revert O2 fr2 hdy2
     generalize upd H' T0 (.tup [.str ⟨#[ch]⟩, y]) = H2
     generalize colN c kind sh parts i = c1 at *
     intro O2 fr2 hdy2
     generalize (⟨#[ch]⟩ : Str) = x at *
     refine ⟨_, _, rfl, _, _, rfl, rfl, _, rfl, rfl, _, rfl, ?_⟩
     rw [dec_strV]
     have word : ¬ (x = "m" ∨ x = "v") ∧ ¬ x = "b" ∧ ¬ x = "t" → y = .str (strOf d) := fun n => mono_str hdy2 (pf_word hf n)
     have cl : c1.labels.length < sizeLine := Nat.lt_of_le_of_lt cap1.1 (lt_sz (by omega))
     have cs : c1.slots.length < sizeLine := Nat.lt_of_le_of_lt cap1.2.1 (lt_sz (by omega))
     have cg : c1.gates.length < sizeLine := Nat.lt_of_le_of_lt cap1.2.2.1 (lt_sz (by omega))
     have ce : c1.edits.length < sizeLine := Nat.lt_of_le_of_lt cap1.2.2.2 (lt_sz (by omega))
     have cap2 : Cap c1 (90000 + 3 * (i + 1)) := cap1.mono (by omega)
     unfold colPart
     by_cases e1 : x = "l"
     · obtain rfl := word (by rw [e1]; decide +kernel)
       rw [if_pos e1]
       refine ifT (decide_eq_true e1) ?_
       refine ⟨_, rfl, _, _, _, _, _, rfl, O2.ob, rc.cls, rc.n5, rfl, _, rfl, _, _, rfl, dput_w O2.dl cl, ⟨_, _, _, rfl⟩, O2.put_l _, fr2.upd (by simp [RcA.L]), ?_, cap2.2⟩
       have := putW_len c1.labels (strOf d)
       have := cap1.1
       show (putW c1.labels (strOf d)).length ≤ _
       omega
     · rw [if_neg e1]
       refine ifF (decide_eq_false e1) ⟨_, rfl, rfl, _, rfl, ?_⟩
       rw [dec_strV]
       by_cases e2 : x = "m"
       · rw [if_pos e2]
         refine ifT (decide_eq_true e2) ?_
         obtain ⟨zs, rfl, hz3, _⟩ := aw_tup (pf_m (by rw [← e2]; exact hf))
         cases hdy2 with
         | @tup q ws _ hws haw =>
         obtain ⟨zs', ez, rfl⟩ := strs_of (by
           have := pf_m (d := .tuple (zs.map PyData.str)) (by rw [← e2]; exact hf)
           exact (Bool.and_eq_true_iff.mp (Bool.and_eq_true_iff.mp this).2).1) haw
         obtain rfl : zs = zs' := by
           have := congrArg (List.map strOf) ez
           rw [map_strOf, map_strOf] at this
           exact this
         refine ⟨_, rfl, q, rfl, ⟨_, hws⟩, for_it walk_tup (fun j σ H3 => (∃ y4 : Option V, σ = [some (.ref R.a), some (.ref t), some (.str x), some (.ref q), y4]) ∧ RC H3 R E0 { c1 with labels := (zs.take j).foldl putW c1.labels } ∧ Fr R.L H2 H3) ⟨⟨_, rfl⟩, O2, Fr.refl⟩ (fun j σ H3 _ p => hws.kp (O2.kp p.2.2)) ?_ ?_⟩
         · rintro j v σ H3 H4 hj ⟨⟨y4', rfl⟩, O3, fr3⟩ ⟨rfl, hv⟩
           have hj' : j < zs.length := by rw [List.length_map] at hj; exact hj
           have hz : zs[j]? = some zs[j] := List.getElem?_eq_getElem hj'
           obtain rfl : v = .str zs[j] := by
             rw [List.getElem?_map, hz] at hv
             exact (Option.some.inj hv).symm
           have hl3 : ((zs.take j).foldl putW c1.labels).length < sizeLine := by
             have h1 := foldW_len (zs.take j) c1.labels
             have h2 : (zs.take j).length ≤ 3 := by rw [List.length_take]; omega
             have := cap1.1
             exact Nat.lt_of_le_of_lt h1 (lt_sz (by omega))
           refine ⟨_, rfl, _, _, _, _, _, rfl, O3.ob, rc.cls, rc.n5, rfl, _, rfl, _, _, rfl, dput_w O3.dl hl3, ⟨_, rfl⟩, ?_, fr3.upd (by simp [RcA.L])⟩
           have e := O3.put_l zs[j]
           rw [TS.take_one hz, List.foldl_append]
           exact e
         · rintro σ H3 ⟨⟨y4', rfl⟩, O3, fr3⟩
           rw [List.length_map, List.take_length] at O3
           refine ⟨⟨_, _, _, rfl⟩, ?_, fr2.trans fr3, ?_, cap2.2⟩
           · show RC H3 R E0 { c1 with labels := ((zs.map PyData.str).map strOf).foldl putW c1.labels }
             rw [map_strOf]
             exact O3
           · show (((zs.map PyData.str).map strOf).foldl putW c1.labels).length ≤ _
             rw [map_strOf]
             have := foldW_len zs c1.labels
             have := cap1.1
             omega
       · rw [if_neg e2]
         refine ifF (decide_eq_false e2) ?_
         refine ⟨_, rfl, sz_lit (by decide), fun p1 hp1 => ⟨p1, _, rfl, .inr (.inl (.inl upd_same)), rfl, rfl, _, rfl, ?_⟩⟩
         rw [inV2]
         have sm3 : Same H2 (upd H2 p1 (.tup [.str "s", .str "r"])) := Same.new hp1
         have O3 := O2.mono sm3
         have fr3 := fr2.trans (sm3.fr (L := R.L))
         have hq3 : SqT K (upd H2 p1 (.tup [.str "s", .str "r"])) t (.str kind :: vr) := hq.kp (sm.kp.trans ((O.mono sm).kp fr3))
         revert O3 fr3 hq3
         generalize upd H2 p1 (.tup [.str "s", .str "r"]) = H3
         intro O3 fr3 hq3
         by_cases e3 : x = "s" ∨ x = "r"
         · refine ifT (decide_eq_true e3) ?_
           obtain rfl := word (by rcases e3 with e | e <;> (rw [e]; decide +kernel))
           refine ⟨_, rfl, rfl, _, rfl, ?_⟩
           rw [dec_strV]
           by_cases e4 : strOf d = "in"
           · rw [if_neg (fun h => h.2 e4), if_neg (by rcases e3 with e | e <;> (rw [e]; intro h; exact absurd h.1 (by decide +kernel))), if_neg (by rcases e3 with e | e <;> (rw [e]; decide +kernel))]
             refine ifF (by rw [decide_eq_true e4]; rfl) ?_
             refine ⟨_, rfl, rfl, _, rfl, ?_⟩
             rw [dec_strV]
             refine ifF (decide_eq_false (by rcases e3 with e | e <;> (rw [e]; decide +kernel))) ?_
             refine ifF rfl ⟨_, rfl, rfl, _, rfl, ?_⟩
             rw [dec_strV]
             exact ifF (decide_eq_false (by rcases e3 with e | e <;> (rw [e]; decide +kernel))) ⟨⟨_, _, _, rfl⟩, O3, fr3, cap2⟩
           · rw [if_pos ⟨e3, e4⟩]
             refine ifT (by rw [decide_eq_false e4]; rfl) ?_
             refine ⟨_, rfl, _, _, _, _, _, rfl, O3.ob, rc.cls, rc.n6, rfl, _, rfl, _, _, rfl, dput_w O3.ds cs, ⟨_, _, _, rfl⟩, O3.put_s _, fr3.upd (by simp [RcA.L]), cap2.1, ?_, cap2.2.2⟩
             have := putW_len c1.slots (strOf d)
             have := cap1.2.1
             show (putW c1.slots (strOf d)).length ≤ _
             omega
         · rw [if_neg (fun h => e3 h.1)]
           refine ifF (decide_eq_false e3) (ifF rfl ⟨_, rfl, rfl, _, rfl, ?_⟩)
           rw [dec_strV]
           by_cases e5 : x = "i"
           · obtain rfl := word (by rw [e5]; decide +kernel)
             refine ifT (decide_eq_true e5) ⟨_, rfl, t, _, 0, _, rfl, rfl, hq3, atI_zero _ _, rfl, _, rfl, ?_⟩
             rw [dec_strV]
             by_cases e6 : kind = "edit"
             · rw [if_pos ⟨e5, e6⟩]
               refine ifT (decide_eq_true e6) ?_
               refine ⟨_, rfl, _, _, _, _, _, rfl, O3.ob, rc.cls, rc.n8, rfl, _, rfl, _, _, rfl, dput_w O3.de ce, ⟨_, _, _, rfl⟩, O3.put_e _, fr3.upd (by simp [RcA.L]), cap2.1, cap2.2.1, cap2.2.2.1, ?_⟩
               have := putW_len c1.edits (strOf d)
               have := cap1.2.2.2
               show (putW c1.edits (strOf d)).length ≤ _
               omega
             · rw [if_neg (fun h => e6 h.2), if_pos e5]
               refine ifF (decide_eq_false e6) ⟨_, rfl, rfl, _, rfl, ?_⟩
               rw [dec_strV]
               refine ifT (decide_eq_true e5) ?_
               refine ⟨_, rfl, _, _, _, _, _, rfl, O3.ob, rc.cls, rc.n7, rfl, _, rfl, _, _, rfl, dput_w O3.dg cg, ⟨_, _, _, rfl⟩, O3.put_g _, fr3.upd (by simp [RcA.L]), cap2.1, cap2.2.1, ?_, cap2.2.2.2⟩
               have := putW_len c1.gates (strOf d)
               have := cap1.2.2.1
               show (putW c1.gates (strOf d)).length ≤ _
               omega
           · rw [if_neg (fun h => e5 h.1), if_neg e5]
             refine ifF (decide_eq_false e5) (ifF rfl ⟨_, rfl, rfl, _, rfl, ?_⟩)
             rw [dec_strV]
             exact ifF (decide_eq_false e5) ⟨⟨_, _, _, rfl⟩, O3, fr3, cap2⟩
   · rintro σ H' ⟨_, O1, fr1, _⟩
     rw [hvl, colN_all hlen] at O1
     exact k _ (sm.fr.trans fr1) O1
end
end Op
namespace Op
open PySem L2 PyProof.Rows
theorem wt_tuple (xs : List PyData) : wt (.tuple xs) = 1 + wts xs := by rw [wt]
theorem wt_list (xs : List PyData) : wt (.list xs) = 1 + wts xs := by rw [wt]
theorem wts_cons (x : PyData) (r : List PyData) : wts (x :: r) = wt x + wts r := by rw [wts]
theorem wts_nil : wts [] = 0 := by rw [wts]
def fitAll (E : Env0) (sh : Str) (parts : List PyData) : Bool := (sh.cps.toList.zip parts).all fun p => partFits E ⟨#[p.1]⟩ p.2
def hasC (c : Nat) (sh : Str) : Bool := decide (c ∈ sh.cps.toList)
def fitRow (E : Env0) (c : Chk) (kind : Str) (parts : List PyData) (depth : Int) (lp : Bool) (sh : Str) : Bool :=
 if kind = "edit" ∧ E.we = false then false
 else if kind = "leave" ∧ lp = false then false
 else if ¬ parts.length = sh.length then false
 else if (hasC 98 sh || hasC 116 sh) = true ∧ 5 ≤ depth then false
 else if fitAll E sh parts = true then idFits c kind parts else false
def fits (E : Env0) (c : Chk) (d : PyData) (depth : Int) (lp : Bool) : Bool :=
 match d with
 | .tuple (.str kind :: parts) => match shapes.lookup kind with
   | none => false
   | some sh => fitRow E c kind parts depth lp sh
 | _ => false
theorem fitAll_iff {E : Env0} {sh : Str} {parts : List PyData} (hl : sh.cps.size = parts.length) : fitAll E sh parts = true ↔ Fitted E sh parts := by
 unfold fitAll Fitted
 rw [List.all_eq_true]
 constructor
 · intro h
   refine ⟨hl, fun i ch d h1 h2 => h (ch, d) ?_⟩
   refine List.mem_of_getElem? (i := i) ?_
   rw [List.getElem?_zip_eq_some]
   exact ⟨by rw [Array.getElem?_toList]; exact h1, h2⟩
 · rintro ⟨_, h⟩ ⟨ch, d⟩ hm
   obtain ⟨i, hi⟩ := List.getElem?_of_mem hm
   rw [List.getElem?_zip_eq_some] at hi
   exact h i ch d (by rw [← Array.getElem?_toList]; exact hi.1) hi.2
theorem ids_word {E : Env0} {kind sh : Str} {parts : List PyData} (hs : shapes.lookup kind = some sh) (h : Fitted E sh parts) (hk : kind = "edit" ∨ kind = "gate" ∨ kind = "past") : ∃ x r, parts = .str x :: r := by
 have key : ∀ sh : Str, sh.cps[0]? = some 105 → Fitted E sh parts → ∃ x r, parts = .str x :: r := by
   intro sh h0 ⟨hl, hf⟩
   cases parts with
   | nil =>
     have := (Array.getElem?_eq_some_iff.mp h0).1
     rw [hl] at this
     cases this
   | cons d r =>
     have := pf_word (hf 0 105 d h0 rfl) (by decide +kernel)
     cases d with
     | str x => exact ⟨x, r, rfl⟩
     | _ => cases this
 rcases hk with rfl | rfl | rfl
 · obtain rfl : sh = "ibb" := (Option.some.inj (hs.symm.trans (by decide +kernel : shapes.lookup ("edit" : Str) = some "ibb")))
   exact key _ (by decide +kernel) h
 · obtain rfl : sh = "ibb" := (Option.some.inj (hs.symm.trans (by decide +kernel : shapes.lookup ("gate" : Str) = some "ibb")))
   exact key _ (by decide +kernel) h
 · obtain rfl : sh = "ib" := (Option.some.inj (hs.symm.trans (by decide +kernel : shapes.lookup ("past" : Str) = some "ib")))
   exact key _ (by decide +kernel) h
theorem andNo {p : Prop} [Decidable p] {A N : Prop} (h : p → N → A) (n : N) : if decide p = true then A else N := by
 by_cases q : p
 · rw [decide_eq_true q]; exact h q n
 · rw [decide_eq_false q]; exact n
theorem orNo {p : Prop} [Decidable p] {A B N : Prop} (ha : p → N → A) (hb : ¬ p → N → B) (n : N) : if decide p = true then A else B := by
 by_cases q : p
 · rw [decide_eq_true q]; exact ha q n
 · rw [decide_eq_false q]; exact hb q n
section
variable {P : Program} {w : World} {K : PySem.W.Frag} {mg : Str → Option Value} {base : Heap} {pS CI C : Addr}
def spFits (K : PySem.W.Frag) (C : Addr) : Sp := fun vs H Q _ => ∃ (A : RcA) (E : Env0) (c : Chk) (v : V) (d : PyData) (depth : Int) (lp : Bool), vs = [.ref A.a, v, .int depth, .bl lp] ∧ A.C = C ∧ RC H A E c ∧ Dp K H v d ∧ wt d ≤ 100000 ∧
 ∀ H', Same H H' → Q (.bl (fits E c d depth lp)) H'
theorem shapes_len : ∀ {kind sh : Str}, shapes.lookup kind = some sh → sh.length ≤ 4 := by
 have key : ∀ (l : List (Str × Str)) (kind sh : Str), l.all (fun p => decide (p.2.length ≤ 4)) = true → l.lookup kind = some sh → sh.length ≤ 4 := by
   intro l
   induction l with
   | nil => intro kind sh _ h; cases h
   | cons p r ih =>
     intro kind sh ha h
     obtain ⟨a, b⟩ := p
     obtain ⟨h1, h2⟩ := Bool.and_eq_true_iff.mp ha
     rw [List.lookup_cons] at h
     cases q : kind == a with
     | true =>
       rw [q] at h
       obtain rfl := Option.some.inj h
       exact of_decide_eq_true h1
     | false =>
       rw [q] at h
       exact ih kind sh h2 h
 intro kind sh h
 exact key shapes kind sh (by decide +kernel) h
theorem sc_RowCheck_fits : FnScope ["self", "row", "depth", "in_loop", "kind", "shape", "code", "part"] ["self", "row", "depth", "in_loop"] (defScope s_RowCheck_fits) := ⟨rfl, rfl, rfl, by decide +kernel, rfl, by decide +kernel, by decide +kernel⟩
theorem ok_fits {f : Addr} {fd : FuncData} (F : Fun K "fits" "RowCheck.fits" s_RowCheck_fits f fd) (T : TxtC P w K mg pS CI) (rc : RcC K C) (m_part_fits : Mcal P w K mg base CX0 3 C "part_fits" ["self", "code", "part"] (spPF K)) (m_id_fits : Mcal P w K mg base CX0 1 C "id_fits" ["self", "row"] (spID K)) :
   FnOk P w K mg base CX0 4 f fd ["self", "row", "depth", "in_loop"] (spFits K C) := by
 refine F.ok sc_RowCheck_fits (fun vs H Q E h => ?_) (fun cdv A outer s H vs Q E hr h => ?_)
 · obtain ⟨A, E, c, v, d, depth, lp, rfl, _⟩ := h
   rfl
 · obtain ⟨R, E0, c, v, d, depth, lp, rfl, hC, O, hd, hw, k⟩ := h
   have hu := hu_of hr
   have c_RowCheck := rc.cls
   refine ⟨_, (pss_cons (ps_if (PW.pt (pw_or (pt_not (pt_val (pe_callB call_isi (by rfl) T.b_isinstance (by decide +kernel) (pa_cons (pv 1) (pa_cons (pe_bltn (v := .ty "tuple") (by rfl) T.b_tuple (by decide +kernel) rfl) pa_nil))))) (pw_or (pt_cmpR op_eq (pe_callB call_len_seq (by rfl) T.b_len (by decide +kernel) (pa_cons (pv 1) pa_nil)) pe_int (nomark _)) (pw_or1 (pt_not (pt_val (pe_callB call_isi (by rfl) T.b_isinstance (by decide +kernel) (pa_cons (pe_ix ix_tup (pv 1) pe_int (fun _ _ => rfl)) (pa_cons (pe_bltn (v := .ty "str") (by rfl) T.b_str (by decide +kernel) rfl) pa_nil))))))))) (pss_one (ps_ret pe_bl)) pss_nil)
     (pss_cons (ps_set (i := 4) sc_RowCheck_fits.nd rfl (.inl rfl) (pe_ix ix_tup (pv 1) pe_int (fun _ _ => rfl)))
     (pss_cons (ps_if (PW.pt (pw_or (pt_cmpR op_notIn_wtab (pv 4) (pe_gref rfl T.g_SHAPES) (by rfl)) (pw_or1 (PW.pt (pw_and (pt_cmpR op_eq (pv 4) pe_str (nomark _)) (pw_and1 (pt_not (pt_val (pe_fld (pv 0) rfl))))))))) (pss_one (ps_ret pe_bl)) pss_nil)
     (pss_cons (ps_if (PW.pt (pw_and (pt_cmpR op_eq (pv 4) pe_str (nomark _)) (pw_and1 (pt_not (pt_val (pv 3)))))) (pss_one (ps_ret pe_bl)) pss_nil)
     (pss_cons (ps_set (i := 5) sc_RowCheck_fits.nd rfl (.inl rfl) (pe_ix ix_wtab (pe_gref rfl T.g_SHAPES) (pv 4) (fun _ _ => rfl)))
     (pss_cons (ps_if (pt_cmpR op_ne (pe_callB call_len_seq (by rfl) T.b_len (by decide +kernel) (pa_cons (pv 1) pa_nil)) (pe_op op_add pe_int (pe_callB call_len_str (by rfl) T.b_len (by decide +kernel) (pa_cons (pv 5) pa_nil))) (nomark _)) (pss_one (ps_ret pe_bl)) pss_nil)
     (pss_cons (ps_if (PW.pt (pw_and (PW.pt (pw_or (pt_cmpR op_in_sign pe_str (pv 5) (by rfl)) (pw_or1 (pt_cmpR op_in_sign pe_str (pv 5) (by rfl))))) (pw_and1 (pt_cmpR op_ge (pv 2) (pe_glob (v := .int (5)) rfl T.g_DEEPEST.choose_spec ⟨_, rfl⟩) (nomark _))))) (pss_one (ps_ret pe_bl)) pss_nil)
     (pss_cons (ps_for PassesOwn.never rfl (pi_zipS (by rfl) T.b_zip (pa_cons (pv 5) (pa_cons (pe_slice sl_tupA (pv 1) (po_some pe_int) po_none) pa_nil))) (pg_tup rfl (pgs_cons (pg_name (i := 6) sc_RowCheck_fits.nd rfl (.inl rfl)) (pgs_cons (pg_name (i := 7) sc_RowCheck_fits.nd rfl (.inl rfl)) pgs_nil))) (pss_one (ps_if (pt_not (pt_val (pe_mcal (pv 0) c_RowCheck m_part_fits (hr.mono (by omega)) pass0 (pa_cons (pv 6) (pa_cons (pv 7) pa_nil))))) (pss_one (ps_ret pe_bl)) pss_nil)))
     (pss_one (ps_ret (pe_mcal (pv 0) c_RowCheck m_id_fits (hr.mono (by omega)) pass0 (pa_cons (pv 1) pa_nil)))))))))))), ?_⟩
   refine ⟨_, rfl, v, _, _, _, _, rfl, .ty _, ty_dp hd, kit_tuple d, _, rfl, ?_⟩
   cases hd with
   | @tup t xs ds hq ha =>
     refine ifF rfl ⟨_, rfl, t, xs, rfl, .inr hq, rfl, _, rfl, ?_⟩
     cases ha with
     | nil => exact ifT rfl (ifT rfl (k _ (Same.refl _)))
     | @cons v0 vr d0 dr h0 hr0 =>
     refine ifF (decide_eq_false (by intro z; injection z with z; rw [List.length_cons] at z; omega)) ?_
     refine ⟨_, rfl, t, _, 0, _, rfl, rfl, hq, atI_zero _ _, v0, _, _, _, _, rfl, .ty _, ty_dp h0, kit_str d0, _, rfl, ?_⟩
     cases h0 with
     | str kind =>
       refine ifF rfl ?_
       refine ⟨_, rfl, t, _, 0, _, rfl, rfl, hq, atI_zero _ _, ?_⟩
       refine ⟨_, rfl, pS, kind, _, rfl, rfl, T.w_SHAPES, _, rfl, ?_⟩
       rw [shapes_look]
       have k : ∀ H', Same H H' → Q (.bl (match shapes.lookup kind with | none => false | some sh => fitRow E0 c kind dr depth lp sh)) H' := k
       cases hsh : shapes.lookup kind with
       | none =>
         rw [hsh] at k
         exact ifT rfl (ifT rfl (k _ (Same.refl _)))
       | some sh =>
       rw [hsh] at k
       have k : ∀ H', Same H H' → Q (.bl (fitRow E0 c kind dr depth lp sh)) H' := k
       unfold fitRow at k
       refine ifF rfl ⟨_, rfl, rfl, _, rfl, ?_⟩
       rw [dec_strV]
       by_cases e1 : kind = "edit" ∧ E0.we = false
       · rw [if_pos e1] at k
         refine ifT (decide_eq_true e1.1) ⟨_, rfl, _, _, _, _, _, rfl, O.ob, hC ▸ rc.cls, hC ▸ rc.n3, rfl, _, rfl, ?_⟩
         rw [e1.2]
         exact ifT rfl (k _ (Same.refl _))
       rw [if_neg e1] at k
       refine andNo (fun e n => ?_) (ifF rfl ?_)
       · refine ⟨_, rfl, _, _, _, _, _, rfl, O.ob, hC ▸ rc.cls, hC ▸ rc.n3, rfl, _, rfl, ?_⟩
         rw [show E0.we = true from (by cases q : E0.we with | true => rfl | false => exact absurd ⟨e, q⟩ e1)]
         exact n
       refine ⟨_, rfl, rfl, _, rfl, ?_⟩
       rw [dec_strV]
       by_cases e2 : kind = "leave" ∧ lp = false
       · rw [if_pos e2] at k
         refine ifT (decide_eq_true e2.1) ⟨_, rfl, _, rfl, ?_⟩
         rw [e2.2]
         exact ifT rfl (k _ (Same.refl _))
       rw [if_neg e2] at k
       refine andNo (fun e n => ?_) (ifF rfl ?_)
       · refine ⟨_, rfl, _, rfl, ?_⟩
         cases lp with
         | true => exact n
         | false => exact absurd ⟨e, rfl⟩ e2
       refine ⟨_, rfl, pS, kind, _, .str sh, rfl, rfl, T.w_SHAPES, by rw [shapes_look, hsh]; rfl, ?_⟩
       have hsl := shapes_len hsh
       have hvl := hr0.len
       refine ⟨_, rfl, t, _, rfl, .inr hq, _, rfl, sh, rfl, sz_lit (by omega), _, _, rfl, rfl, rfl, _, rfl, ?_⟩
       have el : decide (V.int ((V.str kind :: vr).length : Nat) = V.int (1 + (sh.length : Nat))) = decide (dr.length = sh.length) := by
         rw [Bool.eq_iff_iff, decide_eq_true_iff, decide_eq_true_iff, List.length_cons]
         constructor
         · intro z; injection z with z; omega
         · intro z; congr 1; omega
       rw [el]
       by_cases e3 : ¬ dr.length = sh.length
       · rw [if_pos e3] at k
         rw [decide_eq_false e3]
         exact ifT rfl (k _ (Same.refl _))
       rw [if_neg e3] at k
       have e3 : dr.length = sh.length := Decidable.byContradiction e3
       rw [decide_eq_true e3]
       refine ifF rfl ?_
       refine ⟨_, rfl, 98, sh, rfl, rfl, _, rfl, ?_⟩
       by_cases e4 : (hasC 98 sh || hasC 116 sh) = true ∧ 5 ≤ depth
       · rw [if_pos e4] at k
         by_cases q : 98 ∈ sh.cps.toList
         · refine ifT (decide_eq_true q) (ifT rfl ⟨_, rfl, _, _, rfl, rfl, _, rfl, ?_⟩)
           exact ifT (decide_eq_true e4.2) (k _ (Same.refl _))
         · refine ifF (decide_eq_false q) ⟨_, rfl, 116, sh, rfl, rfl, _, rfl, ?_⟩
           have e5 := e4.1
           unfold hasC at e5
           rw [decide_eq_false q, Bool.false_or] at e5
           refine ifT e5 ⟨_, rfl, _, _, rfl, rfl, _, rfl, ?_⟩
           exact ifT (decide_eq_true e4.2) (k _ (Same.refl _))
       rw [if_neg e4] at k
       apply orNo
       · intro e n
         refine ifT rfl ⟨_, rfl, _, _, rfl, rfl, _, rfl, ?_⟩
         have e5 : decide (5 ≤ depth) = false := decide_eq_false fun h => e4 ⟨by unfold hasC; rw [decide_eq_true e]; rfl, h⟩
         show ite (decide (5 ≤ depth) = true) _ _
         rw [e5]
         exact n
       · intro e n
         refine ⟨_, rfl, 116, sh, rfl, rfl, _, rfl, ?_⟩
         by_cases q : 116 ∈ sh.cps.toList
         · refine ifT (decide_eq_true q) ⟨_, rfl, _, _, rfl, rfl, _, rfl, ?_⟩
           have e5 : decide (5 ≤ depth) = false := decide_eq_false fun h => e4 ⟨by unfold hasC; rw [decide_eq_true q, Bool.or_true], h⟩
           show ite (decide (5 ≤ depth) = true) _ _
           rw [e5]
           exact n
         · exact ifF (decide_eq_false q) n
       refine ifF rfl ?_
       refine ⟨_, rfl, _, rfl, 1, rfl, t, _, rfl, hq, fun z => absurd z (cut1n _ _), fun _ p hp => ?_⟩
       rw [cut1]
       have sm : Same H (upd H p (.tup vr)) := Same.new hp
       refine ⟨sh, p, vr, rfl, .inl (.inl upd_same), ?_⟩
       have hlen : sh.cps.size = dr.length := e3.symm
       refine for_zipS (by omega) (fun i σ H' => (∃ y6 y7 : Option V, σ = [some (.ref R.a), some (.ref t), some (.int depth), some (.bl lp), some (.str kind), some (.str sh), y6, y7]) ∧ Same H H' ∧ SqT K H' p vr ∧ ((sh.cps.toList.zip dr).take i).all (fun p => partFits E0 ⟨#[p.1]⟩ p.2) = true) ⟨⟨_, _, rfl⟩, sm, .inl (.inl upd_same), rfl⟩ (fun i σ H' q => q.2.2.1) ?_ ?_
       · rintro i ch y T0 σ H' h1 h2 ⟨⟨y6, y7, rfl⟩, s1, hp1, hall⟩ hT0
         obtain ⟨d, h3, hdy⟩ := hr0.get h2
         have sm1 : Same H' (upd H' T0 (.tup [.str ⟨#[ch]⟩, y])) := Same.new hT0
         have hz : (sh.cps.toList.zip dr)[i]? = some (ch, d) := by
           rw [List.getElem?_zip_eq_some]
           exact ⟨by rw [Array.getElem?_toList]; exact h1, h3⟩
         refine ⟨T0, _, rfl, .inl (.inl upd_same), rfl, _, _, rfl, _, _, rfl, rfl, ?_⟩
         have s2 := s1.trans sm1
         have hp2 := hp1.mono sm1
         revert s2 hp2
         generalize upd H' T0 (.tup [.str ⟨#[ch]⟩, y]) = H2
         intro s2 hp2
         have O2 := O.mono s2
         have hwd : wt d ≤ 100000 := by
           have a1 := wts_mem (List.mem_of_getElem? h3)
           have a2 : wt (.tuple (.str kind :: dr)) = 1 + (wt (.str kind) + wts dr) := by rw [wt_tuple, wts_cons]
           omega
         subst hC
         refine ⟨_, rfl, _, _, _, rfl, O2.ob, rfl, _, rfl, _, rfl, R, E0, c, _, y, d, rfl, O2, rc, hdy.mono s2, hwd, _, rfl, ?_⟩
         by_cases q : partFits E0 ⟨#[ch]⟩ d = true
         · rw [q]
           refine ifF rfl ⟨⟨_, _, rfl⟩, s2, hp2, ?_⟩
           rw [TS.take_one hz, List.all_append, hall]
           simp [q]
         · rw [Bool.eq_false_iff.mpr q]
           refine ifT rfl ?_
           have e5 : fitAll E0 sh dr = false := by
             refine Bool.eq_false_iff.mpr fun z => q ?_
             exact List.all_eq_true.mp z (ch, d) (List.mem_of_getElem? hz)
           rw [e5] at k
           exact k _ s2
       · rintro σ H' ⟨⟨y6, y7, rfl⟩, s1, _, hall⟩
         rw [List.take_of_length_le (by rw [List.length_zip, Array.length_toList]; omega)] at hall
         have e5 : fitAll E0 sh dr = true := hall
         rw [if_pos e5] at k
         have O2 := O.mono s1
         subst hC
         refine ⟨_, rfl, _, _, _, rfl, O2.ob, rfl, _, rfl, R, E0, c, t, kind, dr, rfl, O2, rc, .tup (hq.mono s1) (.cons (.str kind) (DpAll.mono s1 hr0)), ids_word hsh ((fitAll_iff hlen).mp e5), fun H3 s3 => k _ (s1.trans s3)⟩
     | _ => exact ifT rfl (k _ (Same.refl _))
   | _ => exact ifT rfl (ifT rfl (k _ (Same.refl _)))
end
end Op
namespace L2
open PySem PySem.Spec PyProof.Rows
theorem DpAll.append {K : PySem.W.Frag} {H : Hp} : ∀ {vs ws : List V} {ds es : List PyData}, DpAll K H vs ds → DpAll K H ws es → DpAll K H (vs ++ ws) (ds ++ es)
 | _, _, _, _, .nil, h => h
 | _, _, _, _, .cons a b, h => .cons a (b.append h)
end L2
namespace Op
open PySem L2 PyProof.Rows
def innerL (kind : Str) (parts : List PyData) : List PyData :=
 if kind = "both" then (match parts with | .tuple ds :: _ => ds | _ => []) else parts.filter isList
section
variable {P : Program} {w : World} {K : PySem.W.Frag} {mg : Str → Option Value} {base : Heap}
def spInner (K : PySem.W.Frag) : Sp := fun vs H Q _ => ∃ (t : Addr) (kind : Str) (parts : List PyData), vs = [.ref t] ∧ Dp K H (.ref t) (.tuple (.str kind :: parts)) ∧ parts.length ≤ 1000 ∧ (kind = "both" → ∃ ds r, parts = .tuple ds :: r) ∧
 ∀ p xs H', Same H H' → H p = none → H' p = some (.lst xs) → DpAll K H xs (innerL kind parts) → Q (.ref p) H'
def spInnerG (K : PySem.W.Frag) : Sp := fun vs H Q _ => ∃ (G : Hp) (t : Addr) (kind : Str) (parts : List PyData), vs = [.ref t] ∧ Same G H ∧ Dp K G (.ref t) (.tuple (.str kind :: parts)) ∧ parts.length ≤ 1000 ∧ (kind = "both" → ∃ ds r, parts = .tuple ds :: r) ∧
 ∀ p xs H', Same H H' → H p = none → H' p = some (.lst xs) → DpAll K G xs (innerL kind parts) → Q (.ref p) H'
theorem sc_inner_lists : FnScope ["row", "part"] ["row"] (defScope s_inner_lists) := ⟨rfl, rfl, rfl, by decide +kernel, rfl, by decide +kernel, by decide +kernel⟩
theorem ok_inner_listsG {f : Addr} {fd : FuncData} (F : Fun K "inner_lists" "inner_lists" s_inner_lists f fd) (T : Txt mg) : FnOk P w K mg base CX0 1 f fd ["row"] (spInnerG K) := by
 refine F.ok sc_inner_lists (fun vs H Q E h => ?_) (fun cdv A outer s H vs Q E hr h => ?_)
 · obtain ⟨G, t, kind, parts, rfl, _⟩ := h
   rfl
 · obtain ⟨G, t, kind, parts, rfl, hG, hd, hpl, hb, k⟩ := h
   cases hd with
   | @tup _ xs _ hq ha =>
   cases ha with
   | @cons v0 vr d0 dr h0 hr0 =>
   cases h0 with
   | str kind =>
   have hqG := hq
   replace hq := hq.mono hG
   have hvl := hr0.len
   unfold innerL at k
   refine ⟨_, (pss_cons (ps_if (pt_cmpR op_eq (pe_ix ix_tup (pv 0) pe_int (fun _ _ => rfl)) pe_str (nomark _)) (pss_one (ps_ret (pe_callTy call_list_of (by rfl) T.b_list (by decide +kernel) (pa_cons (pe_ix ix_tup (pv 0) pe_int (fun _ _ => rfl)) pa_nil)))) pss_nil)
     (pss_one (ps_ret (pe_lc (own := [("part", 1)]) (g := gName 1)  rfl sc_inner_lists.nd (pi_tup (pv 0)) (blkOk_by (own := [("part", 1)]) (N := ["row", "part"]) (sc := defScope s_inner_lists) (by decide +kernel)) (fun _ _ _ _ _ => (pg_name (i := 1) sc_inner_lists.nd rfl (.inl rfl))) (fun _ _ _ _ _ => (pts_one (pt_val (pe_callB (id := "isinstance") (r := rIsi K) call_isi (by rfl) T.b_isinstance (by decide +kernel) (pa_cons (pv 1) (pa_cons (pe_bltn (v := .ty "list") (by rfl) T.b_list (by decide +kernel) rfl) pa_nil)))))) (fun _ _ _ _ _ => (pv 1)))))), ?_⟩
   refine ⟨_, rfl, t, _, 0, _, rfl, rfl, hq, atI_zero _ _, rfl, _, rfl, ?_⟩
   rw [dec_strV]
   by_cases e1 : kind = "both"
   · rw [if_pos e1] at k
     obtain ⟨ds, r, rfl⟩ := hb e1
     cases hr0 with
     | @cons v1 vs1 d1 dr1 h1 hr1 =>
     cases h1 with
     | @tup q ws _ hqw haw =>
     refine ifT (decide_eq_true e1) ⟨_, rfl, t, _, 1, _, rfl, rfl, hq, atI_one _ _ _, q, ws, rfl, .inr (hqw.mono hG), fun l hl => ?_⟩
     exact k l ws _ (Same.new hl) hl upd_same haw
   · rw [if_neg e1] at k
     refine ifF (decide_eq_false e1) ⟨_, rfl, t, rfl, ⟨_, hq⟩, fun D hD => ?_⟩
     refine lc_it (walk_tup (xs := .str kind :: vr)) (fun i H' => ∃ acc, H' D = some (.lst acc) ∧ acc.length ≤ i ∧ DpAll K G acc (((.str kind :: parts).take i).filter isList) ∧ Same H H') ⟨[], upd_same, Nat.le_refl _, .nil, Same.new hD⟩ (fun i H' _ p => hq.mono (let ⟨_, _, _, _, s⟩ := p; s)) ?_ ?_
     · rintro i x H1 H2 hi ⟨acc, hacc, hal, hdp, sm⟩ ⟨rfl, hx⟩
       obtain ⟨d, hd1, hd2⟩ := DpAll.get (.cons (.str kind) hr0) hx
       refine ⟨rfl, _, rfl, x, _, _, _, _, rfl, .ty _, ty_dp ((hd2.mono hG).mono sm), kit_list d, _, rfl, ?_⟩
       have hi' : i < 2000 := by rw [List.length_cons] at hi; omega
       have e2 : ((.str kind :: parts).take (i + 1)).filter isList = ((.str kind :: parts).take i).filter isList ++ [d].filter isList := by
         rw [TS.take_one hd1, List.filter_append]
       by_cases q : isList d = true
       · rw [q]
         refine ifT rfl ⟨_, rfl, acc, hacc, lt_sz (by omega), acc ++ [x], upd_same, by rw [List.length_append]; show acc.length + 1 ≤ _; omega, ?_, fun b o hb => ?_⟩
         · rw [e2, List.filter_cons_of_pos q, List.filter_nil]
           exact hdp.append (.cons hd2 .nil)
         · rw [upd_ne (ne_of_none hb hD)]
           exact sm b o hb
       · rw [Bool.eq_false_iff.mpr q]
         refine ifF rfl ⟨acc, hacc, by omega, ?_, sm⟩
         rw [e2, List.filter_cons_of_neg (by rw [Bool.eq_false_iff.mpr q]; exact Bool.false_ne_true), List.filter_nil, List.append_nil]
         exact hdp
     · rintro H1 ⟨acc, hacc, _, hdp, sm⟩
       refine k D acc H1 sm hD hacc ?_
       rw [List.take_of_length_le (by rw [List.length_cons, List.length_cons]; omega)] at hdp
       exact hdp
theorem ok_inner_lists {f : Addr} {fd : FuncData} (F : Fun K "inner_lists" "inner_lists" s_inner_lists f fd) (T : Txt mg) : FnOk P w K mg base CX0 1 f fd ["row"] (spInner K) :=
 (ok_inner_listsG F T).imp fun vs H Q E h => by
   obtain ⟨t, kind, parts, rfl, hd, hpl, hb, k⟩ := h
   exact ⟨H, t, kind, parts, rfl, fun _ _ z => z, hd, hpl, hb, k⟩
end
end Op
namespace Op
open PySem L2 PyProof.Rows
abbrev Out := Except (List Int) Chk
def listOf : PyData → List PyData
 | .list ds => ds
 | _ => []
def chkIn (rec : List PyData → List Int → Chk → Out) (pre : List Int) : List PyData → Nat → Chk → Out
 | [], _, c => .ok c
 | d :: r, j, c => match rec (listOf d) (pre ++ [(j : Int)]) c with
   | .error p => .error p
   | .ok c' => chkIn rec pre r (j + 1) c'
def inside (lp : Bool) (kind : Str) : Bool := if kind = "both" then false else lp || decide (kind = "loop")
def shapeOf (kind : Str) : Str := (shapes.lookup kind).getD ""
def chkRow (rec : Bool → List PyData → List Int → Chk → Out) (E : Env0) (depth : Int) (lp : Bool) (pre : List Int) (d : PyData) (i : Nat) (c : Chk) : Out :=
 match d with
 | .tuple (.str kind :: parts) => if fits E c d depth lp = true then chkIn (rec (inside lp kind)) (pre ++ [(i : Int)]) (innerL kind parts) 0 (collect { c with total := c.total + 1 } kind (shapeOf kind) parts) else .error (pre ++ [(i : Int)])
 | _ => .error (pre ++ [(i : Int)])
def chkRows (row : PyData → Nat → Chk → Out) : List PyData → Nat → Chk → Out
 | [], _, c => .ok c
 | d :: r, i, c => match row d i c with
   | .error p => .error p
   | .ok c' => chkRows row r (i + 1) c'
def chkL (E : Env0) : Nat → Bool → List PyData → List Int → Chk → Out
 | 0, _, _, _, c => .ok c
 | n + 1, lp, ds, pre, c => chkRows (chkRow (chkL E n) E (5 - (n : Int)) lp pre) ds 0 c
theorem colPart_cap {E : Env0} {kind : Str} {c : Chk} {x : Str} {d : PyData} {n : Nat} (hf : partFits E x d = true) (h : Cap c n) : Cap (colPart kind c x d) (n + 3) := by
 obtain ⟨h1, h2, h3, h4⟩ := h
 unfold colPart
 split
 · have := putW_len c.labels (strOf d)
   exact ⟨by show (putW c.labels (strOf d)).length ≤ _; omega, by show c.slots.length ≤ _; omega, by show c.gates.length ≤ _; omega, by show c.edits.length ≤ _; omega⟩
 · split
   · rename_i e
     obtain ⟨zs, rfl, hz, _⟩ := aw_tup (pf_m (by rw [← e]; exact hf))
     refine ⟨?_, by show c.slots.length ≤ _; omega, by show c.gates.length ≤ _; omega, by show c.edits.length ≤ _; omega⟩
     show (((zs.map PyData.str).map strOf).foldl putW c.labels).length ≤ _
     rw [map_strOf]
     have := foldW_len zs c.labels
     omega
   · split
     · have := putW_len c.slots (strOf d)
       exact ⟨by show c.labels.length ≤ _; omega, by show (putW c.slots (strOf d)).length ≤ _; omega, by show c.gates.length ≤ _; omega, by show c.edits.length ≤ _; omega⟩
     · split
       · have := putW_len c.edits (strOf d)
         exact ⟨by show c.labels.length ≤ _; omega, by show c.slots.length ≤ _; omega, by show c.gates.length ≤ _; omega, by show (putW c.edits (strOf d)).length ≤ _; omega⟩
       · split
         · have := putW_len c.gates (strOf d)
           exact ⟨by show c.labels.length ≤ _; omega, by show c.slots.length ≤ _; omega, by show (putW c.gates (strOf d)).length ≤ _; omega, by show c.edits.length ≤ _; omega⟩
         · exact ⟨by omega, by omega, by omega, by omega⟩
theorem collect_cap {E : Env0} {kind sh : Str} {c : Chk} {parts : List PyData} {n : Nat} (hf : Fitted E sh parts) (h : Cap c n) : Cap (collect c kind sh parts) (n + 3 * parts.length) := by
 have key : ∀ i, i ≤ parts.length → Cap (colN c kind sh parts i) (n + 3 * i) := by
   intro i
   induction i with
   | zero => intro _; exact h
   | succ i ih =>
     intro hi
     have h2 : parts[i]? = some parts[i] := List.getElem?_eq_getElem hi
     have hs : i < sh.cps.size := by rw [hf.1]; exact hi
     have h1 : sh.cps[i]? = some sh.cps[i] := Array.getElem?_eq_getElem hs
     rw [colN_succ h1 h2]
     exact (colPart_cap (hf.2 i _ _ h1 h2) (ih (by omega))).mono (by omega)
 rw [← colN_all hf.1]
 exact key _ (Nat.le_refl _)
def wIn : List PyData → Nat
 | [] => 0
 | d :: r => wts (listOf d) + wIn r
theorem wts_listOf (d : PyData) : wts (listOf d) + 1 ≤ wt d := by
 cases d with
 | list ds => rw [wt_list]; show wts ds + 1 ≤ _; omega
 | _ => exact (by have := wt_pos; rw [show listOf _ = [] from rfl, wts_nil]; exact wt_pos _)
theorem wIn_le : ∀ ds : List PyData, wIn ds ≤ wts ds
 | [] => by rw [wts_nil]; exact Nat.le_refl _
 | d :: r => by
   have := wIn_le r
   have := wts_listOf d
   rw [wts_cons]
   show wts (listOf d) + wIn r ≤ _
   omega
theorem wIn_filter : ∀ ds : List PyData, ds.length + wIn (ds.filter isList) ≤ wts ds
 | [] => by rw [wts_nil]; exact Nat.le_refl _
 | d :: r => by
   have h1 := wIn_filter r
   have h2 := wts_listOf d
   rw [wts_cons, List.length_cons]
   by_cases q : isList d = true
   · rw [List.filter_cons_of_pos q]
     show _ + (wts (listOf d) + wIn (r.filter isList)) ≤ _
     omega
   · rw [List.filter_cons_of_neg q]
     omega
theorem wIn_inner (kind : Str) (parts : List PyData) : parts.length + wIn (innerL kind parts) ≤ wts parts := by
 unfold innerL
 split
 · cases parts with
   | nil => rw [wts_nil]; exact Nat.le_refl _
   | cons d r =>
     have h1 := wts_len r
     have h0 := wt_pos d
     rw [wts_cons, List.length_cons]
     cases d with
     | tuple ds =>
       have := wIn_le ds
       rw [wt_tuple]
       show _ + wIn ds ≤ _
       omega
     | _ =>
       show r.length + 1 + 0 ≤ _
       omega
 · exact wIn_filter parts
def CapF (f : List PyData → List Int → Chk → Out) : Prop := ∀ ds pre c c' m, f ds pre c = .ok c' → Cap c m → Cap c' (m + 3 * wts ds)
theorem chkIn_cap {f : List PyData → List Int → Chk → Out} (hf : CapF f) {pre : List Int} : ∀ (l : List PyData) (j : Nat) (c c' : Chk) (m : Nat), chkIn f pre l j c = .ok c' → Cap c m → Cap c' (m + 3 * wIn l)
 | [], j, c, c', m, h, k => by
   obtain rfl := Except.ok.inj h
   exact k
 | d :: r, j, c, c', m, h, k => by
   unfold chkIn at h
   cases q : f (listOf d) (pre ++ [(j : Int)]) c with
   | error p => rw [q] at h; cases h
   | ok c1 =>
     rw [q] at h
     have h1 := hf _ _ _ _ _ q k
     have h2 := chkIn_cap hf r (j + 1) c1 c' _ h h1
     exact h2.mono (by show _ ≤ m + 3 * (wts (listOf d) + wIn r); omega)
theorem fits_shape {E : Env0} {c : Chk} {kind : Str} {parts : List PyData} {depth : Int} {lp : Bool} (h : fits E c (.tuple (.str kind :: parts)) depth lp = true) : shapes.lookup kind = some (shapeOf kind) ∧ Fitted E (shapeOf kind) parts ∧ ((hasC 98 (shapeOf kind) || hasC 116 (shapeOf kind)) = true → depth < 5) := by
 have h : (match shapes.lookup kind with | none => false | some sh => fitRow E c kind parts depth lp sh) = true := h
 cases q : shapes.lookup kind with
 | none => rw [q] at h; cases h
 | some sh =>
   rw [q] at h
   have e : shapeOf kind = sh := by unfold shapeOf; rw [q]; rfl
   rw [e]
   have h : fitRow E c kind parts depth lp sh = true := h
   unfold fitRow at h
   split at h
   · cases h
   · split at h
     · cases h
     · split at h
       · cases h
       · rename_i e3
         have e3 : parts.length = sh.length := Decidable.byContradiction e3
         split at h
         · cases h
         · rename_i e4
           split at h
           · rename_i e5
             exact ⟨rfl, (fitAll_iff e3.symm).mp e5, fun z => Decidable.byContradiction fun w => e4 ⟨z, by omega⟩⟩
           · cases h
theorem chkRow_cap {rec : Bool → List PyData → List Int → Chk → Out} (hr : ∀ lp, CapF (rec lp)) {E : Env0} {depth : Int} {lp : Bool} {pre : List Int} {d : PyData} {i : Nat} {c c' : Chk} {m : Nat} (h : chkRow rec E depth lp pre d i c = .ok c') (k : Cap c m) : Cap c' (m + 3 * wt d) := by
 unfold chkRow at h
 split at h
 · rename_i kind parts
   split at h
   · rename_i hf
     obtain ⟨_, hF, _⟩ := fits_shape hf
     have h1 := collect_cap (kind := kind) (c := { c with total := c.total + 1 }) hF k
     have h2 := chkIn_cap (hr _) _ _ _ _ _ h h1
     have h3 := wIn_inner kind parts
     refine h2.mono ?_
     rw [wt_tuple, wts_cons]
     omega
   · cases h
 · cases h
theorem chkRows_cap {row : PyData → Nat → Chk → Out} (hr : ∀ d i c c' m, row d i c = .ok c' → Cap c m → Cap c' (m + 3 * wt d)) : ∀ (l : List PyData) (j : Nat) (c c' : Chk) (m : Nat), chkRows row l j c = .ok c' → Cap c m → Cap c' (m + 3 * wts l)
 | [], j, c, c', m, h, k => by
   obtain rfl := Except.ok.inj h
   exact k.mono (by omega)
 | d :: r, j, c, c', m, h, k => by
   unfold chkRows at h
   cases q : row d j c with
   | error p => rw [q] at h; cases h
   | ok c1 =>
     rw [q] at h
     have h1 := hr _ _ _ _ _ q k
     have h2 := chkRows_cap hr r (j + 1) c1 c' _ h h1
     exact h2.mono (by rw [wts_cons]; omega)
theorem chkL_cap (E : Env0) : ∀ (n : Nat) (lp : Bool), CapF (chkL E n lp)
 | 0, lp => fun ds pre c c' m h k => by
   obtain rfl := Except.ok.inj h
   exact k.mono (by omega)
 | n + 1, lp => fun ds pre c c' m h k => chkRows_cap (fun d i c c' m h k => chkRow_cap (chkL_cap E n) h k) ds 0 c c' m h k
theorem inner_deep {E : Env0} {c : Chk} {kind : Str} {parts : List PyData} {depth : Int} {lp : Bool} (h : fits E c (.tuple (.str kind :: parts)) depth lp = true) (hd : 5 ≤ depth) : innerL kind parts = [] := by
 obtain ⟨hs, ⟨hl, hF⟩, hb⟩ := fits_shape h
 have nb : (hasC 98 (shapeOf kind) || hasC 116 (shapeOf kind)) = false := Bool.eq_false_iff.mpr fun z => by
   have := hb z
   omega
 unfold innerL
 split
 · rename_i e
   subst e
   exact absurd nb (by decide +kernel)
 · refine List.filter_eq_nil_iff.mpr fun d hm hd' => ?_
   obtain ⟨i, hi⟩ := List.getElem?_of_mem hm
   have hi' := (List.getElem?_eq_some_iff.mp hi).1
   have h1 : (shapeOf kind).cps[i]? = some ((shapeOf kind).cps[i]'(by omega)) := Array.getElem?_eq_getElem _
   have hf := hF i _ d h1 hi
   have hm' : (shapeOf kind).cps[i]'(by omega) ∈ (shapeOf kind).cps.toList := List.mem_of_getElem? (i := i) (by rw [Array.getElem?_toList]; exact h1)
   revert hf hm' 
   generalize (shapeOf kind).cps[i]'(by omega) = ch
   intro hf hm'
   have n1 : ch ≠ 98 := fun z => by
     unfold hasC at nb
     rw [← z, decide_eq_true hm'] at nb
     cases nb
   have n2 : ch ≠ 116 := fun z => by
     unfold hasC at nb
     rw [← z, decide_eq_true hm', Bool.or_true] at nb
     cases nb
   have sb : ¬ (⟨#[ch]⟩ : Str) = "b" := fun z => n1 (by
     have z : (⟨#[ch]⟩ : Str) = ⟨#[98]⟩ := z
     simpa using z)
   have st : ¬ (⟨#[ch]⟩ : Str) = "t" := fun z => n2 (by
     have z : (⟨#[ch]⟩ : Str) = ⟨#[116]⟩ := z
     simpa using z)
   by_cases em : (⟨#[ch]⟩ : Str) = "m" ∨ (⟨#[ch]⟩ : Str) = "v"
   · unfold partFits at hf
     rw [if_neg (by rcases em with e | e <;> (rw [e]; decide +kernel)), if_neg (by rcases em with e | e <;> (rw [e]; decide +kernel)), if_neg (by rcases em with e | e <;> (rw [e]; decide +kernel)), if_pos em] at hf
     cases d with
     | tuple _ => cases hd'
     | _ => cases hf
   · have := pf_word hf ⟨em, sb, st⟩
     cases d with
     | str _ => cases hd'
     | _ => cases this
theorem both_tuple {E : Env0} {c : Chk} {kind : Str} {parts : List PyData} {depth : Int} {lp : Bool} (h : fits E c (.tuple (.str kind :: parts)) depth lp = true) (hk : kind = "both") : ∃ ds r, parts = .tuple ds :: r ∧ ∀ d ∈ ds, isList d = true := by
 obtain ⟨hs, ⟨hl, hF⟩, hb⟩ := fits_shape h
 subst hk
 cases parts with
 | nil => exact absurd hl (by decide +kernel)
 | cons d r =>
   have hf := hF 0 116 d (by decide +kernel) rfl
   have hf : isBranches d = true := hf
   cases d with
   | tuple ds => exact ⟨ds, r, rfl, fun d hd => List.all_eq_true.mp (Bool.and_eq_true_iff.mp hf).2 d hd⟩
   | _ => cases hf
theorem inner_lists_all {E : Env0} {c : Chk} {kind : Str} {parts : List PyData} {depth : Int} {lp : Bool} (h : fits E c (.tuple (.str kind :: parts)) depth lp = true) : ∀ d ∈ innerL kind parts, isList d = true := by
 intro d hd
 unfold innerL at hd
 split at hd
 · rename_i e
   obtain ⟨ds, r, rfl, p⟩ := both_tuple h e
   exact p d hd
 · exact (List.mem_filter.mp hd).2
end Op
namespace L2
open PySem PySem.Spec PyProof.Rows
theorem cat_any {K : PySem.W.Frag} {H : Hp} {a b : Addr} {xs ys : List V} {Q : VK} (ha : SqT K H a xs) (hb : SqT K H b ys) (hz : xs.length + ys.length ≤ sizeLine) (k : ∀ t H', Same H H' → SqT K H' t (xs ++ ys) → Q (.ref t) H') : rCatA K (.ref a) (.ref b) H Q := by
 refine ⟨a, b, xs, ys, rfl, rfl, ha, hb, hz, fun e => ?_, fun _ e => ?_, fun _ _ p hp => k p _ (Same.new hp) (.inl (.inl upd_same))⟩
 · subst e
   exact k b H (Same.refl _) hb
 · subst e
   exact k a H (Same.refl _) (by rw [List.append_nil]; exact ha)
end L2
namespace Op
open PySem L2 PyProof.Rows
theorem chkRow_no {rec : Bool → List PyData → List Int → Chk → Out} {E : Env0} {depth : Int} {lp : Bool} {pre : List Int} {d : PyData} {i : Nat} {c : Chk} (h : fits E c d depth lp = false) : chkRow rec E depth lp pre d i c = .error (pre ++ [(i : Int)]) := by
 unfold chkRow
 split
 · rw [if_neg (by rw [h]; exact Bool.false_ne_true)]
 · rfl
theorem fits_tuple {E : Env0} {depth : Int} {lp : Bool} {d : PyData} {c : Chk} (h : fits E c d depth lp = true) : ∃ kind parts, d = .tuple (.str kind :: parts) := by
 unfold fits at h
 split at h
 · exact ⟨_, _, rfl⟩
 · cases h
theorem sz1 (x : V) : [x].length ≤ sizeLine := sz_lit (by show 1 ≤ 100000; decide)
theorem sz2 (x y : V) : [x, y].length ≤ sizeLine := sz_lit (by show 2 ≤ 100000; decide)
def contR (f : Chk → Out) : Out → Out
 | .error p => .error p
 | .ok c => f c
theorem chkRows_cons (row : PyData → Nat → Chk → Out) (d : PyData) (r : List PyData) (i : Nat) (c : Chk) : chkRows row (d :: r) i c = contR (chkRows row r (i + 1)) (row d i c) := by
 rw [chkRows]
 cases row d i c <;> rfl
theorem chkIn_cons (f : List PyData → List Int → Chk → Out) (pre : List Int) (d : PyData) (r : List PyData) (j : Nat) (c : Chk) : chkIn f pre (d :: r) j c = contR (chkIn f pre r (j + 1)) (f (listOf d) (pre ++ [(j : Int)]) c) := by
 rw [chkIn]
 cases f (listOf d) (pre ++ [(j : Int)]) c <;> rfl
theorem chkRow_yes {rec : Bool → List PyData → List Int → Chk → Out} {E : Env0} {depth : Int} {lp : Bool} {pre : List Int} {kind : Str} {parts : List PyData} {i : Nat} {c : Chk} (h : fits E c (.tuple (.str kind :: parts)) depth lp = true) :
   chkRow rec E depth lp pre (.tuple (.str kind :: parts)) i c = chkIn (rec (inside lp kind)) (pre ++ [(i : Int)]) (innerL kind parts) 0 (collect { c with total := c.total + 1 } kind (shapeOf kind) parts) := if_pos h
theorem map_snoc (pre : List Int) (i : Int) : pre.map V.int ++ [V.int i] = (pre ++ [i]).map V.int := by rw [List.map_append]; rfl
theorem map_snoc2 (pre : List Int) (i j : Int) : pre.map V.int ++ [V.int i, V.int j] = (pre ++ [i] ++ [j]).map V.int := by rw [List.map_append, List.map_append, List.append_assoc]; rfl
section
variable {P : Program} {w : World} {K : PySem.W.Frag} {mg : Str → Option Value} {base : Heap} {pS CI C : Addr}
def XProg (K : PySem.W.Frag) (H : Hp) (d : Addr) (part : Str) (path : List Int) : Prop := ∃ t, H d = some (.xd [("path", .ref t), ("part", .str part)]) ∧ SqT K H t (path.map V.int)
def spCL (K : PySem.W.Frag) (C CI : Addr) : Nat → Sp
 | 0 => fun _ _ _ _ => False
 | n + 1 => fun vs H Q X => ∃ (A : RcA) (E : Env0) (c : Chk) (rws pr : Addr) (ds : List PyData) (pre : List Int) (lp : Bool) (m : Nat), vs = [.ref A.a, .ref rws, .ref pr, .int (5 - (n : Int)), .bl lp] ∧ A.C = C ∧ RC H A E c ∧ Dp K H (.ref rws) (.list ds) ∧ SqT K H pr (pre.map V.int) ∧ pre.length + 2 * n ≤ 100 ∧ Cap c m ∧ m + 3 * wts ds ≤ 90000 ∧
   (∀ c', chkL E (n + 1) lp ds pre c = .ok c' → ∀ H', Fr A.L H H' → RC H' A E c' → Q .non H') ∧ (∀ p, chkL E (n + 1) lp ds pre c = .error p → ∀ H' d, Fr A.L H H' → XProg K H' d "rows" p → X (.ref CI) (some d) H')
theorem sc_RowCheck_check_list : FnScope ["self", "rows", "prefix", "depth", "in_loop", "index", "row", "inside", "number", "inner"] ["self", "rows", "prefix", "depth", "in_loop"] (defScope s_RowCheck_check_list) := ⟨rfl, rfl, rfl, by decide +kernel, rfl, by decide +kernel, by decide +kernel⟩
theorem ok_check_list {f : Addr} {fd : FuncData} (F : Fun K "check_list" "RowCheck.check_list" s_RowCheck_check_list f fd) (T : TxtC P w K mg pS CI) (rc : RcC K C) (hm : Meth K C "check_list" f) (hb : Binds K fd ["self", "rows", "prefix", "depth", "in_loop"] []) (m_fits : Mcal P w K mg base CX0 4 C "fits" ["self", "row", "depth", "in_loop"] (spFits K C)) (m_collect : Mcal P w K mg base CX0 1 C "collect" ["self", "row"] (spCol K)) (c_inner_lists : Cal P w K mg base CX0 1 "inner_lists" ["row"] (spInner K)) :
   ∀ n : Nat, FnOk P w K mg base (L2.CX P w) (5 + n + 1) f fd ["self", "rows", "prefix", "depth", "in_loop"] (spCL K C CI n)
 | 0 => F.okX sc_RowCheck_check_list (fun vs H Q E h => h.elim) (fun cdv A outer s H vs Q E hr h => h.elim)
 | n + 1 => by
   have m_check_list : Mcal P w K mg base (L2.CX P w) (5 + n + 1) C "check_list" ["self", "rows", "prefix", "depth", "in_loop"] (spCL K C CI n) := ⟨f, fd, hm, hb, ok_check_list F T rc hm hb m_fits m_collect c_inner_lists n⟩
   refine F.okX sc_RowCheck_check_list (fun vs H Q E h => ?_) (fun cdv A outer s H vs Q E hr h => ?_)
   · obtain ⟨A, E, c, rws, pr, ds, pre, lp, m, rfl, _⟩ := h
     rfl
   · obtain ⟨R, E0, c, rws, pr, ds, pre, lp, m, rfl, hC, O, hd, hpr, hpl, hcap, hw, k1, k2⟩ := h
     have hu := hu_of hr
     have c_RowCheck := rc.cls
     subst hC
     refine ⟨_, (pss_one (ps_for (passes_of rfl) rfl (pi_enum (by rfl) T.b_enumerate (pa_cons (pv 1) pa_nil)) (pg_tup rfl (pgs_cons (pg_name (i := 5) sc_RowCheck_check_list.nd rfl (.inl rfl)) (pgs_cons (pg_name (i := 6) sc_RowCheck_check_list.nd rfl (.inl rfl)) pgs_nil))) (pss_cons (ps_if (pt_not (pt_val (pe_mcal (pv 0) c_RowCheck m_fits (hr.mono (by omega)) pass0 (pa_cons (pv 6) (pa_cons (pv 3) (pa_cons (pv 4) pa_nil)))))) (pss_one (ps_raise rfl (takes_of rfl rfl rfl rfl) (pmk_x T.mk_InvalidProgram hr rfl T.g_InvalidProgram T.k_InvalidProgram T.r_InvalidProgram (pa_cons pe_str (pa_cons (pe_op op_catA (pv 2) (pe_tup (pa_cons (pv 5) pa_nil))) pa_nil))))) pss_nil)
     (pss_cons (ps_fldaug (pv 0) pe_int in_add)
     (pss_cons (ps_expr (pe_mcal (pv 0) c_RowCheck m_collect (hr.mono (by omega)) pass0 (pa_cons (pv 6) pa_nil)))
     (Evl.pss_cut (ps_set (i := 7) sc_RowCheck_check_list.nd rfl (.inl rfl) (pe_or (pv 4) (pe_one (pe_cmpR op_eq (pe_ix ix_tup (pv 6) pe_int (fun _ _ => rfl)) pe_str (nomark _)))))
     (Evl.pss_cut (ps_if (pt_cmpR op_eq (pe_ix ix_tup (pv 6) pe_int (fun _ _ => rfl)) pe_str (nomark _)) (pss_one (ps_set (i := 7) sc_RowCheck_check_list.nd rfl (.inl rfl) pe_bl)) pss_nil)
     (pss_one (ps_for (passes_of rfl) rfl (pi_enum (by rfl) T.b_enumerate (pa_cons (pe_cal c_inner_lists (hr.mono (by omega)) rfl pass0 (pa_cons (pv 6) pa_nil)) pa_nil)) (pg_tup rfl (pgs_cons (pg_name (i := 8) sc_RowCheck_check_list.nd rfl (.inl rfl)) (pgs_cons (pg_name (i := 9) sc_RowCheck_check_list.nd rfl (.inl rfl)) pgs_nil))) (pss_one (ps_expr (pe_mcal (pv 0) c_RowCheck m_check_list (hr.mono (by omega)) (passes_call (takes_of rfl rfl rfl rfl) (fun _ _ _ _ h => h)) (pa_cons (pv 9) (pa_cons (pe_op op_catA (pv 2) (pe_tup (pa_cons (pv 5) (pa_cons (pv 8) pa_nil)))) (pa_cons (pe_op op_add (pv 3) pe_int) (pa_cons (pv 7) pa_nil)))))))))))))))), ?_⟩
     cases hd with
     | @lst _ xs _ hq ha =>
     have hxl := ha.len
     refine ⟨_, rfl, rws, xs, rfl, hq, ?_⟩
     refine for_it walk_enum (fun i σ H' => (∃ y5 y6 y7 y8 y9 : Option V, σ = [some (.ref R.a), some (.ref rws), some (.ref pr), some (.int (5 - (n : Int))), some (.bl lp), y5, y6, y7, y8, y9]) ∧ ∃ ci mi, RC H' R E0 ci ∧ Fr R.L H H' ∧ Cap ci mi ∧ mi + 3 * wts (ds.drop i) ≤ 90000 ∧ chkL E0 (n + 1) lp ds pre c = chkRows (chkRow (chkL E0 n) E0 (5 - (n : Int)) lp pre) (ds.drop i) i ci) ⟨⟨_, _, _, _, _, rfl⟩, c, m, O, Fr.refl, hcap, hw, rfl⟩ (fun i σ H' _ p => by
       obtain ⟨_, ci, mi, O1, fr, _⟩ := p
       exact hq.kp (O.kp fr)) ?_ ?_
     · rintro i v σ H1 H2 hi ⟨⟨y5, y6, y7, y8, y9, rfl⟩, ci, mi, O1, fr1, cap1, hw1, hres⟩ ⟨T0, x0, y, rfl, hT0, rfl, hx0, hy⟩
       obtain rfl : x0 = .int (i : Nat) := (Option.some.inj hx0).symm
       obtain ⟨d, hd1, hdy⟩ := ha.get hy
       have hdrop : ds.drop i = d :: ds.drop (i + 1) := by
         obtain ⟨h1, h2⟩ := List.getElem?_eq_some_iff.mp hd1
         rw [List.drop_eq_getElem_cons h1, h2]
       rw [hdrop] at hw1 hres
       rw [wts_cons] at hw1
       refine ⟨T0, _, rfl, .inl (.inl upd_same), rfl, _, _, rfl, _, _, rfl, rfl, ?_⟩
       have sm2 : Same H1 (upd H1 T0 (.tup [.int (i : Nat), y])) := Same.new hT0
       have O2 := O1.mono sm2
       have fr2 : Fr R.L H (upd H1 T0 (.tup [.int (i : Nat), y])) := fr1.trans sm2.fr
       revert O2 fr2
       generalize upd H1 T0 (.tup [.int (i : Nat), y]) = H2
       intro O2 fr2
       have hdy2 : Dp K H2 y d := hdy.kp (O.kp fr2)
       have hwd : wt d ≤ 100000 := by omega
       refine ⟨_, rfl, _, _, _, rfl, O2.ob, rfl, _, rfl, _, rfl, _, rfl, R, E0, ci, y, d, _, lp, rfl, rfl, O2, hdy2, hwd, fun H3 s3 => ⟨_, rfl, ?_⟩⟩
       have O3 := O2.mono s3
       have fr3 : Fr R.L H H3 := fr2.trans s3.fr
       by_cases hf : ¬ fits E0 ci d (5 - (n : Int)) lp = true
       · have hf := Bool.eq_false_iff.mpr hf
         rw [hf]
         refine ifT rfl ?_
         have hp3 : SqT K H3 pr (pre.map V.int) := hpr.kp (O.kp fr3)
         refine ⟨_, rfl, _, rfl, sz1 _, fun p hp => cat_any (hp3.mono (Same.new hp)) (.inl (.inl upd_same)) (sz_lit (by rw [List.length_map]; show _ + 1 ≤ _; omega)) fun t H4 s4 ht => ⟨rfl, fun dd hdd => ?_⟩⟩
         have e : chkL E0 (n + 1) lp ds pre c = .error (pre ++ [(i : Int)]) := by
           rw [hres]
           unfold chkRows
           rw [chkRow_no hf]
         refine k2 _ e _ dd (fr3.trans ((Same.new hp).fr.trans (s4.fr.trans (Same.new hdd).fr))) ⟨t, upd_same, ?_⟩
         rw [← map_snoc]
         exact ht.mono (Same.new hdd)
       have hf : fits E0 ci d (5 - (n : Int)) lp = true := Decidable.byContradiction hf
       rw [hf]
       refine ifF rfl ?_
       obtain ⟨kind, parts, rfl⟩ := fits_tuple hf
       obtain ⟨hsh, hFit, _⟩ := fits_shape hf
       have hsl := shapes_len hsh
       have hpl4 : parts.length ≤ 4 := by rw [← hFit.1]; exact hsl
       cases hdy with
       | @tup t ys _ hqt hat =>
       have hdt : Dp K H3 (.ref t) (.tuple (.str kind :: parts)) := hdy2.mono s3
       refine ⟨_, rfl, _, _, _, _, _, rfl, O3.ob, rc.cls, rc.n4, rfl, _, _, rfl, rfl, _, _, O3.ob, (by show 8 < 1000; decide), ?_⟩
       have O4 := O3.tot (ci.total + 1)
       have fr4 : Fr R.L H3 (upd H3 R.a (.ins R.C R.dx (rcF R E0 { ci with total := ci.total + 1 }))) := Fr.refl.upd (by simp [RcA.L])
       refine ⟨_, rfl, _, _, _, rfl, O4.ob, rfl, _, rfl, R, E0, { ci with total := ci.total + 1 }, t, kind, _, parts, rfl, O4, rc, hdt.kp (O3.kp fr4), hsh, hFit, by omega, cap1.mono (by omega), fun H5 fr5 O5 => ?_⟩
       have fr45 := fr4.trans fr5
       have frH := fr3.trans fr45
       have hdt5 : Dp K H5 (.ref t) (.tuple (.str kind :: parts)) := hdt.kp (O3.kp fr45)
       clear fr5 O4 fr4
       have hq5 : ∃ vr, SqT K H5 t (.str kind :: vr) := by
         cases hdt5 with
         | @tup _ _ _ h1 h2 =>
         cases h2 with
         | @cons _ vr _ _ h3 h4 =>
         cases h3 with
         | str _ => exact ⟨vr, h1⟩
       obtain ⟨vr, hq5⟩ := hq5
       refine ⟨fun σ H' => (∃ y8' y9' : Option V, σ = [some (.ref R.a), some (.ref rws), some (.ref pr), some (.int (5 - (n : Int))), some (.bl lp), some (.int (i : Nat)), some (.ref t), some (.bl (lp || decide (kind = "loop"))), y8', y9']) ∧ H' = H5, ?_, ?_⟩
       · refine ⟨_, rfl, _, rfl, ?_⟩
         cases lp with
         | true => exact ifT rfl ⟨⟨_, _, rfl⟩, rfl⟩
         | false =>
           refine ifF rfl ⟨_, rfl, t, _, 0, _, rfl, rfl, hq5, atI_zero _ _, rfl, ?_⟩
           rw [dec_strV]
           exact ⟨⟨_, _, rfl⟩, rfl⟩
       rintro σ H' ⟨⟨y8', y9', rfl⟩, rfl⟩
       refine ⟨fun σ H'' => (∃ y8' y9' : Option V, σ = [some (.ref R.a), some (.ref rws), some (.ref pr), some (.int (5 - (n : Int))), some (.bl lp), some (.int (i : Nat)), some (.ref t), some (.bl (inside lp kind)), y8', y9']) ∧ H'' = H', ?_, ?_⟩
       · refine ⟨_, rfl, t, _, 0, _, rfl, rfl, hq5, atI_zero _ _, rfl, _, rfl, ?_⟩
         rw [dec_strV]
         unfold inside
         by_cases e : kind = "both"
         · rw [if_pos e]
           exact ifT (decide_eq_true e) ⟨⟨_, _, rfl⟩, rfl⟩
         · rw [if_neg e]
           exact ifF (decide_eq_false e) ⟨⟨_, _, rfl⟩, rfl⟩
       rintro σ H'' ⟨⟨y8', y9', rfl⟩, rfl⟩
       refine ⟨_, rfl, t, kind, parts, rfl, hdt5, by omega, fun e => ?_, fun p xs' H6 s6 _ hp6 hdp6 => ?_⟩
       · obtain ⟨ds', r', e', _⟩ := both_tuple hf e
         exact ⟨ds', r', e'⟩
       refine ⟨p, xs', rfl, .inl (.inl hp6), ?_⟩
       have hO6 := O5.mono s6
       have fr6 : Fr R.L H H6 := frH.trans s6.fr
       have hal := inner_lists_all hf
       have hlen6 := hdp6.len
       have hwi := wIn_inner kind parts
       have hres' : chkL E0 (n + 1) lp ds pre c = contR (chkRows (chkRow (chkL E0 n) E0 (5 - (n : Int)) lp pre) (ds.drop (i + 1)) (i + 1)) (chkIn (chkL E0 n (inside lp kind)) (pre ++ [(i : Int)]) (innerL kind parts) 0 (collect { ci with total := ci.total + 1 } kind (shapeOf kind) parts)) := by
         rw [hres, chkRows_cons]
         congr 1
         exact chkRow_yes hf
       refine for_it walk_enum (fun j σ H' => (∃ y8' y9' : Option V, σ = [some (.ref R.a), some (.ref rws), some (.ref pr), some (.int (5 - (n : Int))), some (.bl lp), some (.int (i : Nat)), some (.ref t), some (.bl (inside lp kind)), y8', y9']) ∧ ∃ cj mj, RC H' R E0 cj ∧ Fr R.L H6 H' ∧ Cap cj mj ∧ mj + 3 * wIn ((innerL kind parts).drop j) + 3 * wts (ds.drop (i + 1)) ≤ 90000 ∧ chkL E0 (n + 1) lp ds pre c = contR (chkRows (chkRow (chkL E0 n) E0 (5 - (n : Int)) lp pre) (ds.drop (i + 1)) (i + 1)) (chkIn (chkL E0 n (inside lp kind)) (pre ++ [(i : Int)]) ((innerL kind parts).drop j) j cj)) ⟨⟨_, _, rfl⟩, _, mi + 3 * parts.length, hO6, Fr.refl, collect_cap hFit cap1, ?_, hres'⟩ (fun j σ H' _ q => by
         obtain ⟨_, cj, mj, O7, fr7, _⟩ := q
         exact SqL.kp (.inl (.inl hp6)) (hO6.kp fr7)) ?_ ?_
       · rw [wt_tuple, wts_cons] at hw1
         rw [List.drop_zero]
         omega
       · rintro j v σ H7 H8 hj ⟨⟨y8', y9', rfl⟩, cj, mj, O7, fr7, cap7, hw7, hres7⟩ ⟨T1, x1, y1, rfl, hT1, rfl, hx1, hy1⟩
         obtain rfl : x1 = .int (j : Nat) := (Option.some.inj hx1).symm
         obtain ⟨d1, hd1', hdy1⟩ := hdp6.get hy1
         have hdrop1 : (innerL kind parts).drop j = d1 :: (innerL kind parts).drop (j + 1) := by
           obtain ⟨h1, h2⟩ := List.getElem?_eq_some_iff.mp hd1'
           rw [List.drop_eq_getElem_cons h1, h2]
         rw [hdrop1] at hw7 hres7
         have hw7 : mj + 3 * (wts (listOf d1) + wIn ((innerL kind parts).drop (j + 1))) + 3 * wts (ds.drop (i + 1)) ≤ 90000 := hw7
         obtain ⟨dl, rfl⟩ : ∃ dl, d1 = .list dl := by
           have := hal d1 (List.mem_of_getElem? hd1')
           cases d1 with
           | list dl => exact ⟨dl, rfl⟩
           | _ => cases this
         refine ⟨T1, _, rfl, .inl (.inl upd_same), rfl, _, _, rfl, _, _, rfl, rfl, ?_⟩
         have sm8 : Same H7 (upd H7 T1 (.tup [.int (j : Nat), y1])) := Same.new hT1
         have O8 := O7.mono sm8
         have fr8 : Fr R.L H6 (upd H7 T1 (.tup [.int (j : Nat), y1])) := fr7.trans sm8.fr
         revert O8 fr8
         generalize upd H7 T1 (.tup [.int (j : Nat), y1]) = H8
         intro O8 fr8
         have frA : Fr R.L H H8 := fr6.trans fr8
         have hdl : Dp K H8 y1 (.list dl) := (hdy1.mono s6).kp (hO6.kp fr8)
         cases n with
         | zero =>
           have := inner_deep hf (by show (5 : Int) ≤ 5 - (0 : Nat); omega)
           rw [this] at hd1'
           simp at hd1'
         | succ n' =>
         have hp8 : SqT K H8 pr (pre.map V.int) := hpr.kp (O.kp frA)
         obtain ⟨q1, rfl⟩ : ∃ q1, y1 = .ref q1 := by
           cases hdl with
           | lst _ _ => exact ⟨_, rfl⟩
         refine ⟨_, rfl, _, _, _, rfl, O8.ob, rfl, _, rfl, _, rfl, _, rfl, _, rfl, sz2 _ _, fun p9 hp9 => cat_any (hp8.mono (Same.new hp9)) (.inl (.inl upd_same)) (sz_lit (by rw [List.length_map]; show _ + 2 ≤ _; omega)) fun t9 H9 s9 ht9 => ⟨_, rfl, _, _, rfl, rfl, _, rfl, ?_⟩⟩
         have s89 : Same H8 H9 := (Same.new hp9).trans s9
         rw [map_snoc2] at ht9
         refine ⟨R, E0, cj, q1, t9, dl, pre ++ [(i : Int)] ++ [(j : Int)], inside lp kind, mj, ?_, rfl, O8.mono s89, hdl.mono s89, ht9, ?_, cap7, ?_, fun c' hc' H' fr' O' => ?_, fun p' hp' H' d' fr' hx' => ?_⟩
         · show [V.ref R.a, V.ref q1, V.ref t9, V.int (5 - ((n' + 1 : Nat) : Int) + 1), V.bl (inside lp kind)] = _
           rw [show (5 - ((n' + 1 : Nat) : Int) + 1) = 5 - (n' : Int) by omega]
         · rw [List.length_append, List.length_append]
           show pre.length + 1 + 1 + 2 * n' ≤ 100
           omega
         · have : wts (listOf (.list dl)) = wts dl := rfl
           omega
         · refine ⟨⟨_, _, rfl⟩, c', mj + 3 * wts dl, O', fr8.trans (s89.fr.trans fr'), chkL_cap E0 _ _ _ _ _ _ _ hc' cap7, ?_, ?_⟩
           · have : wts (listOf (.list dl)) = wts dl := rfl
             omega
           · rw [hres7]
             rw [chkIn_cons, show listOf (.list dl) = dl from rfl, hc']
             rfl
         · refine k2 p' ?_ H' d' (frA.trans (s89.fr.trans fr')) hx'
           rw [hres7]
           rw [chkIn_cons, show listOf (.list dl) = dl from rfl, hp']
           rfl
       · rintro σ H7 ⟨⟨y8', y9', rfl⟩, cj, mj, O7, fr7, cap7, hw7, hres7⟩
         rw [List.drop_of_length_le (l := innerL kind parts) (by omega)] at hres7
         exact ⟨⟨_, _, _, _, _, rfl⟩, cj, mj, O7, fr6.trans fr7, cap7, by omega, hres7⟩
     · rintro σ H' ⟨_, ci, mi, O1, fr, _, _, e⟩
       rw [List.drop_of_length_le (by omega)] at e
       exact k1 ci e H' fr O1
end
end Op
namespace Op
open PySem L2 PyProof.Rows
def sizes (c : Chk) : Option Str :=
 if 60 < c.total then some "size"
 else if 6 < c.labels.length then some "labels"
 else if 4 < c.slots.length then some "slots"
 else if 8 < c.gates.length + c.edits.length then some "gates"
 else if 4 < c.edits.length then some "edits"
 else none
def chk0 : Chk := ⟨0, [], [], [], []⟩
def checkAll (E : Env0) (d : PyData) : Except (Str × List Int) Chk :=
 match d with
 | .list ds => match chkL E 5 false ds [] chk0 with
   | .error p => .error ("rows", p)
   | .ok c => match sizes c with
     | some s => .error (s, [])
     | none => .ok c
 | _ => .error ("rows", [])
section
variable {P : Program} {w : World} {K : PySem.W.Frag} {mg : Str → Option Value} {base : Heap} {pS CI C : Addr}
def spSizes (K : PySem.W.Frag) (C CI : Addr) : Sp := fun vs H Q X => ∃ (A : RcA) (E : Env0) (c : Chk), vs = [.ref A.a] ∧ A.C = C ∧ RC H A E c ∧ (sizes c = none → Q .non H) ∧ ∀ part, sizes c = some part → ∀ H' d, Same H H' → XProg K H' d part [] → X (.ref CI) (some d) H'
theorem sc_RowCheck_check_sizes : FnScope ["self"] ["self"] (defScope s_RowCheck_check_sizes) := ⟨rfl, rfl, rfl, by decide +kernel, rfl, by decide +kernel, by decide +kernel⟩
theorem ok_check_sizes {f : Addr} {fd : FuncData} (F : Fun K "check_sizes" "RowCheck.check_sizes" s_RowCheck_check_sizes f fd) (T : TxtC P w K mg pS CI) (rc : RcC K C) : FnOk P w K mg base (L2.CX P w) 1 f fd ["self"] (spSizes K C CI) := by
 refine F.okX sc_RowCheck_check_sizes (fun vs H Q E h => ?_) (fun cdv A outer s H vs Q E hr h => ?_)
 · obtain ⟨A, E, c, rfl, _⟩ := h
   rfl
 · obtain ⟨R, E0, c, rfl, hC, O, k1, k2⟩ := h
   subst hC
   unfold sizes at k1 k2
   refine ⟨_, (pss_cons (ps_if (pt_cmpR op_gt (pe_fld (pv 0) rfl) (pe_glob (v := .int (60)) rfl T.g_MOST_ROWS.choose_spec ⟨_, rfl⟩) (nomark _)) (pss_one (ps_raise rfl (takes_of rfl rfl rfl rfl) (pmk_x T.mk_InvalidProgram hr rfl T.g_InvalidProgram T.k_InvalidProgram T.r_InvalidProgram (pa_cons pe_str (pa_cons (pe_tup pa_nil) pa_nil))))) pss_nil)
     (pss_cons (ps_if (pt_cmpR op_gt (pe_callB call_lenD (by rfl) T.b_len (by decide +kernel) (pa_cons (pe_fld (pv 0) rfl) pa_nil)) (pe_glob (v := .int (6)) rfl T.g_MOST_LABELS.choose_spec ⟨_, rfl⟩) (nomark _)) (pss_one (ps_raise rfl (takes_of rfl rfl rfl rfl) (pmk_x T.mk_InvalidProgram hr rfl T.g_InvalidProgram T.k_InvalidProgram T.r_InvalidProgram (pa_cons pe_str (pa_cons (pe_tup pa_nil) pa_nil))))) pss_nil)
     (pss_cons (ps_if (pt_cmpR op_gt (pe_callB call_lenD (by rfl) T.b_len (by decide +kernel) (pa_cons (pe_fld (pv 0) rfl) pa_nil)) (pe_glob (v := .int (4)) rfl T.g_MOST_SLOTS.choose_spec ⟨_, rfl⟩) (nomark _)) (pss_one (ps_raise rfl (takes_of rfl rfl rfl rfl) (pmk_x T.mk_InvalidProgram hr rfl T.g_InvalidProgram T.k_InvalidProgram T.r_InvalidProgram (pa_cons pe_str (pa_cons (pe_tup pa_nil) pa_nil))))) pss_nil)
     (pss_cons (ps_if (pt_cmpR op_gt (pe_op op_add (pe_callB call_lenD (by rfl) T.b_len (by decide +kernel) (pa_cons (pe_fld (pv 0) rfl) pa_nil)) (pe_callB call_lenD (by rfl) T.b_len (by decide +kernel) (pa_cons (pe_fld (pv 0) rfl) pa_nil))) (pe_glob (v := .int (8)) rfl T.g_MOST_GATES.choose_spec ⟨_, rfl⟩) (nomark _)) (pss_one (ps_raise rfl (takes_of rfl rfl rfl rfl) (pmk_x T.mk_InvalidProgram hr rfl T.g_InvalidProgram T.k_InvalidProgram T.r_InvalidProgram (pa_cons pe_str (pa_cons (pe_tup pa_nil) pa_nil))))) pss_nil)
     (pss_one (ps_if (pt_cmpR op_gt (pe_callB call_lenD (by rfl) T.b_len (by decide +kernel) (pa_cons (pe_fld (pv 0) rfl) pa_nil)) (pe_glob (v := .int (4)) rfl T.g_MOST_EDITS.choose_spec ⟨_, rfl⟩) (nomark _)) (pss_one (ps_raise rfl (takes_of rfl rfl rfl rfl) (pmk_x T.mk_InvalidProgram hr rfl T.g_InvalidProgram T.k_InvalidProgram T.r_InvalidProgram (pa_cons pe_str (pa_cons (pe_tup pa_nil) pa_nil))))) pss_nil)))))), ?_⟩
   have fin : ∀ part : Str, (∀ H' d, Same H H' → XProg K H' d part [] → E (.ref CI) (some d) H') → ∀ p, H p = none → ∀ d, upd H p (.tup []) d = none → E (.ref CI) (some d) (upd (upd H p (.tup [])) d (.xd [("path", .ref p), ("part", .str part)])) := by
     intro part k p hp d hd
     refine k _ d ((Same.new hp).trans (Same.new hd)) ⟨p, upd_same, ?_⟩
     exact SqT.mono (.inl (.inl upd_same)) (Same.new hd)
   refine ⟨_, rfl, _, _, _, _, _, rfl, O.ob, rc.cls, rc.n4, rfl, _, _, rfl, rfl, _, rfl, ?_⟩
   by_cases e1 : 60 < c.total
   · rw [if_pos e1] at k2
     exact ifT (decide_eq_true e1) ⟨sz_lit (by decide), fun p hp => ⟨rfl, fun d hd => fin _ (k2 _ rfl) p hp d hd⟩⟩
   rw [if_neg e1] at k1 k2
   refine ifF (decide_eq_false e1) ⟨_, rfl, _, _, _, _, _, rfl, O.ob, rc.cls, rc.n5, rfl, _, _, rfl, O.dl, _, _, rfl, rfl, _, rfl, ?_⟩
   rw [dkT_len]
   by_cases e2 : 6 < c.labels.length
   · rw [if_pos e2] at k2
     exact ifT (decide_eq_true (show (6 : Int) < (c.labels.length : Int) by omega)) ⟨sz_lit (by decide), fun p hp => ⟨rfl, fun d hd => fin _ (k2 _ rfl) p hp d hd⟩⟩
   rw [if_neg e2] at k1 k2
   refine ifF (decide_eq_false (show ¬ (6 : Int) < (c.labels.length : Int) by omega)) ⟨_, rfl, _, _, _, _, _, rfl, O.ob, rc.cls, rc.n6, rfl, _, _, rfl, O.ds, _, _, rfl, rfl, _, rfl, ?_⟩
   rw [dkT_len]
   by_cases e3 : 4 < c.slots.length
   · rw [if_pos e3] at k2
     exact ifT (decide_eq_true (show (4 : Int) < (c.slots.length : Int) by omega)) ⟨sz_lit (by decide), fun p hp => ⟨rfl, fun d hd => fin _ (k2 _ rfl) p hp d hd⟩⟩
   rw [if_neg e3] at k1 k2
   refine ifF (decide_eq_false (show ¬ (4 : Int) < (c.slots.length : Int) by omega)) ⟨_, rfl, _, _, _, _, _, rfl, O.ob, rc.cls, rc.n7, rfl, _, _, rfl, O.dg, _, rfl, _, _, _, _, _, rfl, O.ob, rc.cls, rc.n8, rfl, _, _, rfl, O.de, _, _, rfl, rfl, _, _, rfl, rfl, _, rfl, ?_⟩
   rw [dkT_len, dkT_len]
   by_cases e4 : 8 < c.gates.length + c.edits.length
   · rw [if_pos e4] at k2
     exact ifT (decide_eq_true (show (8 : Int) < (c.gates.length : Int) + (c.edits.length : Int) by omega)) ⟨sz_lit (by decide), fun p hp => ⟨rfl, fun d hd => fin _ (k2 _ rfl) p hp d hd⟩⟩
   rw [if_neg e4] at k1 k2
   refine ifF (decide_eq_false (show ¬ (8 : Int) < (c.gates.length : Int) + (c.edits.length : Int) by omega)) ⟨_, rfl, _, _, _, _, _, rfl, O.ob, rc.cls, rc.n8, rfl, _, _, rfl, O.de, _, _, rfl, rfl, _, rfl, ?_⟩
   rw [dkT_len]
   by_cases e5 : 4 < c.edits.length
   · rw [if_pos e5] at k2
     exact ifT (decide_eq_true (show (4 : Int) < (c.edits.length : Int) by omega)) ⟨sz_lit (by decide), fun p hp => ⟨rfl, fun d hd => fin _ (k2 _ rfl) p hp d hd⟩⟩
   rw [if_neg e5] at k1 k2
   exact ifF (decide_eq_false (show ¬ (4 : Int) < (c.edits.length : Int) by omega)) (k1 rfl)
end
end Op
namespace Op
open PySem L2 PyProof.Rows
def RwV (K : PySem.W.Frag) (H : Hp) (v : V) (d : PyData) : Prop := Dp K H v d ∨ d = .dict [] ∧ ∃ p, v = .ref p ∧ H p = some (.dK [])
theorem RwV.lst {K : PySem.W.Frag} {H : Hp} {v : V} {ds : List PyData} (h : RwV K H v (.list ds)) : Dp K H v (.list ds) := by
 rcases h with h | ⟨h, _⟩
 · exact h
 · cases h
section
variable {P : Program} {w : World} {K : PySem.W.Frag} {mg : Str → Option Value} {base : Heap} {pS CI C : Addr}
def spCheck (K : PySem.W.Frag) (C CI : Addr) : Sp := fun vs H Q X => ∃ (A : RcA) (E : Env0) (v : V) (d : PyData), vs = [.ref A.a, v] ∧ A.C = C ∧ RC H A E chk0 ∧ RwV K H v d ∧ wt d ≤ 30000 ∧
 (∀ c, checkAll E d = .ok c → ∀ H', Fr A.L H H' → RC H' A E c → Q .non H') ∧ ∀ part path, checkAll E d = .error (part, path) → ∀ H' dd, Fr A.L H H' → XProg K H' dd part path → X (.ref CI) (some dd) H'
theorem sc_RowCheck_check : FnScope ["self", "rows"] ["self", "rows"] (defScope s_RowCheck_check) := ⟨rfl, rfl, rfl, by decide +kernel, rfl, by decide +kernel, by decide +kernel⟩
theorem ok_check {f : Addr} {fd : FuncData} (F : Fun K "check" "RowCheck.check" s_RowCheck_check f fd) (T : TxtC P w K mg pS CI) (rc : RcC K C) (m_check_list : Mcal P w K mg base (L2.CX P w) 11 C "check_list" ["self", "rows", "prefix", "depth", "in_loop"] (spCL K C CI 5)) (m_check_sizes : Mcal P w K mg base (L2.CX P w) 1 C "check_sizes" ["self"] (spSizes K C CI)) :
   FnOk P w K mg base (L2.CX P w) 12 f fd ["self", "rows"] (spCheck K C CI) := by
 refine F.okX sc_RowCheck_check (fun vs H Q E h => ?_) (fun cdv A outer s H vs Q E hr h => ?_)
 · obtain ⟨A, E, v, d, rfl, _⟩ := h
   rfl
 · obtain ⟨R, E0, v, d, rfl, hC, O, hd, hw, k1, k2⟩ := h
   have c_RowCheck := rc.cls
   subst hC
   refine ⟨_, (pss_cons (ps_if (pt_not (pt_val (pe_callB call_isi (by rfl) T.b_isinstance (by decide +kernel) (pa_cons (pv 1) (pa_cons (pe_bltn (v := .ty "list") (by rfl) T.b_list (by decide +kernel) rfl) pa_nil))))) (pss_one (ps_raise rfl (takes_of rfl rfl rfl rfl) (pmk_x T.mk_InvalidProgram hr rfl T.g_InvalidProgram T.k_InvalidProgram T.r_InvalidProgram (pa_cons pe_str (pa_cons (pe_tup pa_nil) pa_nil))))) pss_nil)
     (pss_cons (ps_expr (pe_mcal (pv 0) c_RowCheck m_check_list (hr.mono (by omega)) (passes_call (takes_of rfl rfl rfl rfl) (fun _ _ _ _ h => h)) (pa_cons (pv 1) (pa_cons (pe_tup pa_nil) (pa_cons pe_int (pa_cons pe_bl pa_nil))))))
     (pss_one (ps_expr (pe_mcal0 (pv 0) c_RowCheck m_check_sizes (hr.mono (by omega)) (passes_call (takes_of rfl rfl rfl rfl) (fun _ _ _ _ h => h))))))), ?_⟩
   have fin : (∀ H' dd, Fr R.L H H' → XProg K H' dd "rows" [] → E (.ref CI) (some dd) H') → ∀ p, H p = none → ∀ d, upd H p (.tup []) d = none → E (.ref CI) (some d) (upd (upd H p (.tup [])) d (.xd [("path", .ref p), ("part", .str "rows")])) := by
     intro k p hp d hd
     refine k _ d ((Same.new hp).trans (Same.new hd)).fr ⟨p, upd_same, ?_⟩
     exact SqT.mono (.inl (.inl upd_same)) (Same.new hd)
   rcases hd with hd | ⟨rfl, p, rfl, hp⟩
   rotate_left
   · refine ⟨_, rfl, .ref p, _, _, _, _, rfl, .ty _, TyX.base (.dK hp), kit_ty (show kitB "dict" "list" = some false by decide +kernel), _, rfl, ?_⟩
     exact ifT rfl ⟨sz_lit (by decide), fun p hp => ⟨rfl, fun d hd => fin (k2 _ _ rfl) p hp d hd⟩⟩
   refine ⟨_, rfl, v, _, _, _, _, rfl, .ty _, ty_dp hd, kit_list d, _, rfl, ?_⟩
   cases hd with
   | @lst q xs ds hq ha =>
     have hw' : 1 + wts ds ≤ 30000 := by rw [wt_list] at hw; exact hw
     refine ifF rfl ⟨_, rfl, _, _, _, rfl, O.ob, rfl, _, rfl, sz_lit (by decide), fun p hp => ?_⟩
     have s1 : Same H (upd H p (.tup [])) := Same.new hp
     refine ⟨R, E0, chk0, q, p, ds, [], false, 0, rfl, rfl, O.mono s1, (Dp.lst hq ha).mono s1, .inl (.inl upd_same), by decide, ⟨Nat.le_refl _, Nat.le_refl _, Nat.le_refl _, Nat.le_refl _⟩, by omega, fun c' hc' H' fr' O' => ?_, fun p' hp' H' d' fr' hx' => ?_⟩
     · refine ⟨_, rfl, _, _, _, rfl, O'.ob, rfl, R, E0, c', rfl, rfl, O', fun hs => ?_, fun part hs H'' d'' s'' hx'' => ?_⟩
       · refine k1 c' ?_ H' (s1.fr.trans fr') O'
         unfold checkAll
         simp only [hc', hs]
       · refine k2 part [] ?_ H'' d'' (s1.fr.trans (fr'.trans s''.fr)) hx''
         unfold checkAll
         simp only [hc', hs]
     · refine k2 "rows" p' ?_ H' d' (s1.fr.trans fr') hx'
       unfold checkAll
       simp only [hp']
   | _ => exact ifT rfl ⟨sz_lit (by decide), fun p hp => ⟨rfl, fun d hd => fin (k2 _ _ rfl) p hp d hd⟩⟩
theorem init_step {H : Hp} {x p C dx : Addr} {fs : List (Str × V)} {f : Str} (h : H x = some (.ins C dx fs)) (hp : H p = none) :
   upd (upd H p (.dK [])) x (.ins C dx (putF f (.ref p) fs)) x = some (.ins C dx (putF f (.ref p) fs)) ∧ upd (upd H p (.dK [])) x (.ins C dx (putF f (.ref p) fs)) p = some (.dK []) ∧ (∀ b o, H b = some o → b ≠ x → upd (upd H p (.dK [])) x (.ins C dx (putF f (.ref p) fs)) b = some o) ∧ ∀ b o, H b = some o → p ≠ b := by
 have hpx : p ≠ x := fun e => by rw [e, h] at hp; cases hp
 refine ⟨upd_same, by rw [upd_ne hpx, upd_same], fun b o hb hbx => ?_, fun b o hb e => ?_⟩
 · rw [upd_ne hbx, upd_ne (ne_of_none hb hp)]
   exact hb
 · rw [e, hb] at hp
   cases hp
def spRcInit (K : PySem.W.Frag) (C : Addr) : Sp := fun vs H Q _ => ∃ (x dx ka ks : Addr) (E : Env0), vs = [.ref x, .ref ka, .ref ks, .bl E.we] ∧ H x = some (.ins C dx []) ∧ Known H ka E.asks ∧ Known H ks E.sigs ∧
 ∀ H' A, A.a = x → A.C = C → (∀ b ∈ [A.l, A.s, A.g, A.e], H b = none) → RC H' A E chk0 → (∀ b o, H b = some o → b ≠ x → H' b = some o) → Q .non H'
theorem sc_RowCheck___init__ : FnScope ["self", "asks", "signals", "with_edits"] ["self", "asks", "signals", "with_edits"] (defScope s_RowCheck___init__) := ⟨rfl, rfl, rfl, by decide +kernel, rfl, by decide +kernel, by decide +kernel⟩
theorem ok_rcinit {f : Addr} {fd : FuncData} (F : Fun K "__init__" "RowCheck.__init__" s_RowCheck___init__ f fd) (rc : RcC K C) : FnOk P w K mg base CX0 1 f fd ["self", "asks", "signals", "with_edits"] (spRcInit K C) := by
 refine F.ok sc_RowCheck___init__ (fun vs H Q E h => ?_) (fun cdv A outer s H vs Q E hr h => ?_)
 · obtain ⟨x, dx, ka, ks, E, rfl, _⟩ := h
   rfl
 · obtain ⟨x, dx, ka, ks, E0, rfl, hx, hka, hks, k⟩ := h
   have nka : ka ≠ x := hka.ne_ins hx
   have nks : ks ≠ x := hks.ne_ins hx
   refine ⟨_, (pss_cons (ps_fld (pv 0) (pv 1) rfl)
     (pss_cons (ps_fld (pv 0) (pv 2) rfl)
     (pss_cons (ps_fld (pv 0) (pv 3) rfl)
     (pss_cons (ps_fld (pv 0) pe_int rfl)
     (pss_cons (ps_fld (pv 0) pe_dnewK rfl)
     (pss_cons (ps_fld (pv 0) pe_dnewK rfl)
     (pss_cons (ps_fld (pv 0) pe_dnewK rfl)
     (pss_one (ps_fld (pv 0) pe_dnewK rfl))))))))), ?_⟩
   refine ⟨_, rfl, _, rfl, x, C, dx, _, rfl, hx, rc.cls, rc.n1, (by show 0 < 1000; decide), ?_⟩
   refine ⟨_, rfl, _, rfl, x, C, dx, _, rfl, upd_same, rc.cls, rc.n2, (by show 1 < 1000; decide), ?_⟩
   refine ⟨_, rfl, _, rfl, x, C, dx, _, rfl, upd_same, rc.cls, rc.n3, (by show 2 < 1000; decide), ?_⟩
   refine ⟨_, rfl, x, C, dx, _, rfl, upd_same, rc.cls, rc.n4, (by show 3 < 1000; decide), ?_⟩
   rw [upd_upd, upd_upd, upd_upd]
   have g0 : ∀ b o, H b = some o → b ≠ x → upd H x (.ins C dx (putF "total" (.int 0) (putF "with_edits" (.bl E0.we) (putF "known_signals" (.ref ks) (putF "known_asks" (.ref ka) []))))) b = some o := fun b o hb hbx => by rw [upd_ne hbx]; exact hb
   have x0 : upd H x (.ins C dx (putF "total" (.int 0) (putF "with_edits" (.bl E0.we) (putF "known_signals" (.ref ks) (putF "known_asks" (.ref ka) []))))) x = some (.ins C dx (putF "total" (.int 0) (putF "with_edits" (.bl E0.we) (putF "known_signals" (.ref ks) (putF "known_asks" (.ref ka) []))))) := upd_same
   have n0 : ∀ b, upd H x (.ins C dx (putF "total" (.int 0) (putF "with_edits" (.bl E0.we) (putF "known_signals" (.ref ks) (putF "known_asks" (.ref ka) []))))) b = none → H b = none := fun b hb => by
     cases q : H b with
     | none => rfl
     | some o =>
       by_cases e : b = x
       · rw [e, x0] at hb; cases hb
       · rw [g0 b o q e] at hb; cases hb
   revert g0 x0 n0
   generalize upd H x (.ins C dx (putF "total" (.int 0) (putF "with_edits" (.bl E0.we) (putF "known_signals" (.ref ks) (putF "known_asks" (.ref ka) []))))) = H0
   intro g0 x0 n0
   refine fun p1 hp1 => ⟨_, rfl, x, C, dx, _, rfl, Same.new hp1 _ _ x0, rc.cls, rc.n5, (by show 4 < 1000; decide), ?_⟩
   obtain ⟨x1, q1, g1, m1⟩ := init_step (f := "label_words") x0 hp1
   revert x1 q1 g1
   generalize upd (upd H0 p1 (.dK [])) x (.ins C dx (putF "label_words" (.ref p1) _)) = H1
   intro x1 q1 g1
   refine fun p2 hp2 => ⟨_, rfl, x, C, dx, _, rfl, Same.new hp2 _ _ x1, rc.cls, rc.n6, (by show 5 < 1000; decide), ?_⟩
   obtain ⟨x2, q2, g2, m2⟩ := init_step (f := "slot_words") x1 hp2
   revert x2 q2 g2
   generalize upd (upd H1 p2 (.dK [])) x (.ins C dx (putF "slot_words" (.ref p2) _)) = H2
   intro x2 q2 g2
   refine fun p3 hp3 => ⟨_, rfl, x, C, dx, _, rfl, Same.new hp3 _ _ x2, rc.cls, rc.n7, (by show 6 < 1000; decide), ?_⟩
   obtain ⟨x3, q3, g3, m3⟩ := init_step (f := "gate_words") x2 hp3
   revert x3 q3 g3
   generalize upd (upd H2 p3 (.dK [])) x (.ins C dx (putF "gate_words" (.ref p3) _)) = H3
   intro x3 q3 g3
   refine fun p4 hp4 => ⟨_, rfl, x, C, dx, _, rfl, Same.new hp4 _ _ x3, rc.cls, rc.n8, (by show 7 < 1000; decide), ?_⟩
   obtain ⟨x4, q4, g4, m4⟩ := init_step (f := "edit_words") x3 hp4
   revert x4 q4 g4
   generalize upd (upd H3 p4 (.dK [])) x (.ins C dx (putF "edit_words" (.ref p4) _)) = H4
   intro x4 q4 g4
   have p1x : p1 ≠ x := m1 x _ x0
   have p2x : p2 ≠ x := m2 x _ x1
   have p3x : p3 ≠ x := m3 x _ x2
   have p4x : p4 ≠ x := m4 x _ x3
   have gg : ∀ b o, H b = some o → b ≠ x → H4 b = some o := fun b o hb hbx => g4 b o (g3 b o (g2 b o (g1 b o (g0 b o hb hbx) hbx) hbx) hbx) hbx
   have a1 : H1 p1 = some (.dK []) := q1
   have a2 : H2 p1 = some (.dK []) := g2 _ _ a1 p1x
   have a3 : H3 p1 = some (.dK []) := g3 _ _ a2 p1x
   have b2 : H2 p2 = some (.dK []) := q2
   have b3 : H3 p2 = some (.dK []) := g3 _ _ b2 p2x
   have c3 : H3 p3 = some (.dK []) := q3
   have e12 : p1 ≠ p2 := (m2 _ _ a1).symm
   have e13 : p1 ≠ p3 := (m3 _ _ a2).symm
   have e14 : p1 ≠ p4 := (m4 _ _ a3).symm
   have e23 : p2 ≠ p3 := (m3 _ _ b2).symm
   have e24 : p2 ≠ p4 := (m4 _ _ b3).symm
   have e34 : p3 ≠ p4 := (m4 _ _ c3).symm
   have up1 : ∀ b o, H b = some o → b ≠ x → H1 b = some o := fun b o hb hbx => g1 b o (g0 b o hb hbx) hbx
   have up2 : ∀ b o, H b = some o → b ≠ x → H2 b = some o := fun b o hb hbx => g2 b o (up1 b o hb hbx) hbx
   have up3 : ∀ b o, H b = some o → b ≠ x → H3 b = some o := fun b o hb hbx => g3 b o (up2 b o hb hbx) hbx
   have old : ∀ b o, H b = some o → b ≠ x → b ≠ p1 ∧ b ≠ p2 ∧ b ≠ p3 ∧ b ≠ p4 := fun b o hb hbx =>
     ⟨(m1 _ _ (g0 b o hb hbx)).symm, (m2 _ _ (up1 b o hb hbx)).symm, (m3 _ _ (up2 b o hb hbx)).symm, (m4 _ _ (up3 b o hb hbx)).symm⟩
   have oka := let ⟨kvs, h, _⟩ := hka; old _ _ h nka
   have oks := let ⟨kvs, h, _⟩ := hks; old _ _ h nks
   refine k H4 ⟨C, x, dx, ka, ks, p1, p2, p3, p4⟩ rfl rfl ?_ ⟨x4, hka.mono fun o h => gg _ o h nka, hks.mono fun o h => gg _ o h nks, g4 _ _ a3 p1x, g4 _ _ b3 p2x, g4 _ _ c3 p3x, q4, ?_, ?_⟩ gg
   · intro b hb
     cases q : H b with
     | none => rfl
     | some o =>
       exfalso
       have hb : b = p1 ∨ b = p2 ∨ b = p3 ∨ b = p4 := by simpa using hb
       by_cases hbx : b = x
       · rcases hb with e | e | e | e
         · exact p1x (e.symm.trans hbx)
         · exact p2x (e.symm.trans hbx)
         · exact p3x (e.symm.trans hbx)
         · exact p4x (e.symm.trans hbx)
       · obtain ⟨o1, o2, o3, o4⟩ := old b o q hbx
         rcases hb with e | e | e | e
         · exact o1 e
         · exact o2 e
         · exact o3 e
         · exact o4 e
   · simp [List.nodup_cons, oka, e12, e13, e14, e23, e24, e34]
   · simp [List.nodup_cons, oks, e12, e13, e14, e23, e24, e34]
end
end Op
namespace L2
open PySem PySem.Spec PyProof.Rows
def keysO (p d : Addr) : HO := .ext fun h => PySem.W.KdlKeysView h p d
theorem keysO_ok {P : Program} {w : World} {H : Hp} {h : Heap} {p d : Addr} (e : h.get? p = some { cls := .type "dict_keys", data := .fields #[.ref d] }) : ObjOk P w H h p (keysO p d) :=
 ⟨⟨_, e, rfl, rfl⟩, ⟨_, e⟩, fun h1 h2 x k => let ⟨o, ho, r⟩ := x; ⟨o, k o ho, r⟩⟩
section
variable {X : Cx}
def rKeysV : V → List V → Hp → VK → Prop := fun x xs H Q => ∃ (a : Addr) (kvs : List (Key × V)), x = .ref a ∧ xs = [] ∧ Rd H a (.dK kvs) ∧ ∀ p, H p = none → Q (.ref p) (upd H p (keysO p a))
theorem mt_keysV : MtR X "dict.keys" rKeysV := by
 intro pins s σ H x xs v us Q I rx rxs h
 obtain ⟨a, kvs, rfl, rfl, ha, q⟩ := h
 cases rx
 cases rxs
 obtain ⟨z, lo, vs, rel, dd⟩ := dk_rd I.hok ha
 have hf : H s.heap.objs.size = none := I.hok.fresh (Nat.le_refl _)
 refine call_meetsIn PySem.F.slot_dict_keys dd.typeIs PySem.F.entry_dict_keys (PySem.F.args_dict_keys_1 _) (PySem.W.kdl_meets_keys (mixKind X.prog X.w) a lo) ⟨⟨vs, dd⟩, ?_⟩
 exact ⟨.ref s.heap.objs.size, upd H s.heap.objs.size (keysO s.heap.objs.size a), I.laid (t' := s.toks) (fun b u e => Heap.get?_push_of_some _ e) (Nat.le_refl _) (keysO_ok (Heap.get?_push_size _ rfl)), rfl, q _ hf⟩
def rSortKV : List V → Hp → VK → Prop := fun xs H Q => ∃ (p a : Addr) (kvs : List (Key × V)) (ks : List Str), xs = [.ref p] ∧ H p = some (keysO p a) ∧ Rd H a (.dK kvs) ∧ kvs.map (·.1) = ks.map Sum.inr ∧ ks.length < 64 ∧
   ∀ ys q, ys.Perm ks → sortedS ys = true → H q = none → Q (.ref q) (upd H q (.lst (ys.map V.str)))
theorem call_sortedKV (hcalm : X.calm = true) : CallR X (.builtin "sorted") rSortKV := by
 intro pins s σ H xs us Q I r q
 obtain ⟨p, a, kvs, ks, rfl, hp, hd, hks, h64, q⟩ := q
 obtain ⟨u, rfl, rx⟩ := vals1 r
 cases rx
 have hview : PySem.W.KdlKeysView s.heap p a := (I.hok p _ hp).1
 obtain ⟨z, lo, vs, rel, dd⟩ := dk_rd I.hok hd
 obtain ⟨ep, hat⟩ := dd.dictAt
 have hkeys : vs.map (·.1) = ks.map Sum.inr := rel.keys.symm.trans hks
 have hl : vs.length = ks.length := by simpa using congrArg List.length hkeys
 refine Calls.call_function_entry PyProof.Rows.kind_sorted PyProof.Rows.plain_sorted PyProof.Rows.entry_sorted (PyProof.Rows.args_sorted1 _) ?_
 unfold Builtin.«sorted»
 refine wpAny_bind (m := checkCount "sorted" 1 1 _) (wpAny_pure ?_)
 refine wpAny_bind (PySem.W.kdu_collect (A := X.A.in1) (PySem.W.kdl_keys (knd := mixKind X.prog X.w) (r := p) (d := a) (kvs := vs) (ep := ep)) (I.ok.hd hcalm) ⟨hview, hat⟩ (by rw [hl, sizeLine_eq]; omega) fun h' tk acc hk hacc => ?_)
 have hal : acc.toList.length = ks.length := by rw [Array.length_toList, hacc.1, hl]
 have hS : StrsAre acc.toList ks := strs_at hal fun j v e => by
   obtain ⟨k, x, e1, e2⟩ := hacc.2 j v (by rw [← Array.getElem?_toList]; exact e)
   have e3 : (vs.map (·.1))[j]? = some k := by rw [List.getElem?_map, e1]; rfl
   rw [hkeys, List.getElem?_map] at e3
   cases e4 : ks[j]? with
   | none => rw [e4] at e3; cases e3
   | some y =>
     rw [e4] at e3
     obtain rfl : Sum.inr y = k := Option.some.inj e3
     obtain ⟨t, ev⟩ := Value.isStrOf_shape (x := y) (v := v) e2
     exact ⟨y, t, rfl, ev⟩
 have I1 : Inv X pins σ H { s with heap := h', toks := tk } := I.kept hk
 refine wpAny_bind (wpAny_newList ?_ (by rw [hal, sizeLine_eq]; omega))
 have hoL : (h'.push (seqObj "list" acc.toList.toArray 0)).get? h'.objs.size = some (seqObj "list" acc.toList.toArray 0) := Heap.get?_push_size _ rfl
 show wpAny _ _ _ _ _ { s with heap := h'.push (seqObj "list" acc.toList.toArray 0), toks := tk }
 refine wpAny_bind (wpAny_holding (wpAny_call_entry PyProof.Rows.slot_list_sort ⟨_, hoL, rfl⟩ PyProof.Rows.entry_list_sort
   (list_sort_treeK strKind_oneLt (s := { s with heap := h'.push (seqObj "list" acc.toList.toArray 0), toks := tk }) hoL hS.keysOf (fun v₁ v₂ rest e => keyKind_strs (by rw [← e]; exact hS)) (by rw [hal]; exact h64) fun st' hp' hs => ⟨_, rfl, ?_⟩)
   (PyProof.Rows.args_list_sort _)))
 obtain ⟨ys, g1, g2, g3⟩ := sorted_out_str hS hp' hs
 obtain ⟨e', he'⟩ := PyProof.Rows.sortedHeap_at (vs := acc.toList) (out := (arrOf st').map (·.2)) hoL
 have hlen : (ys.map V.str).length ≤ sizeLine := by
   rw [List.length_map, g2.length_eq, sizeLine_eq]
   omega
 refine wpAny_pure ⟨_, rfl, .ref h'.objs.size, upd H h'.objs.size (.lst (ys.map V.str)), I1.laid (t' := tk) (fun b u e => ?_) (Nat.le_refl _)
   (show ObjOk X.prog X.w _ _ _ (.lst (ys.map V.str)) from ⟨hlen, ((arrOf st').map (·.2)).toList, e', vals_of_strs g1, by rw [Array.toArray_toList]; exact he'⟩), rfl, q ys _ g2 g3 (I1.hok.fresh (Nat.le_refl _))⟩
 have hb : b < h'.objs.size := Heap.lt_size e
 rw [PyProof.Rows.sortedHeap_old (Nat.ne_of_lt hb) (by rw [size_push']; exact Nat.lt_succ_of_lt hb)]
 exact Heap.get?_push_of_some _ e
end
theorem dc_it {J : It} {n : Nat} {G : Hp → Prop} {Y : Nat → Hp → V → Hp → Prop} (w : Walk J n G Y) {g : TG} {tt : TT} {tk tv : TE} {vs : List Nat} {σ : L2.St} {H1 : Hp} {D : Addr} {Qd : Hp → Prop} (Pv : Nat → Hp → Prop) (h0 : Pv 0 (upd H1 D (.dK []))) (hG : ∀ i H, i ≤ n → Pv i H → G H)
   (hs : ∀ i x H H', i < n → Pv i H → Y i H x H' → g x (wipe σ vs) H' fun σ2 H2 => wipe σ2 vs = wipe σ vs ∧ tt σ2 H2 fun b H3 =>
     if b = true then tk σ2 H3 fun y H4 => tv σ2 H4 fun z H5 => ∃ kvs k, y = kV k ∧ H5 D = some (.dK kvs) ∧ kvs.length < sizeLine ∧ Pv (i + 1) (upd H5 D (.dK (putK kvs k z))) else Pv (i + 1) H3) (hd : ∀ H, Pv n H → Qd H) :
   ∃ W : Nat → Nat → Hp → Prop, (∃ m, W 0 m (upd H1 D (.dK []))) ∧ ∀ i m H, W i m H →
     (J.stop i H ∧ Qd H) ∨ (J.go i H ∧ ∃ Nx : Hp → Prop, (∀ H', Nx H' → ∃ m', m' < m ∧ W (i + 1) m' H') ∧ ∀ x H', J.yld i H x H' → g x (wipe σ vs) H' fun σ2 H2 => wipe σ2 vs = wipe σ vs ∧ tt σ2 H2 fun b H3 =>
       if b = true then tk σ2 H3 fun y H4 => tv σ2 H4 fun z H5 => ∃ kvs k, y = kV k ∧ H5 D = some (.dK kvs) ∧ kvs.length < sizeLine ∧ Nx (upd H5 D (.dK (putK kvs k z))) else Nx H3) := by
 refine ⟨fun i m H => m = n - i ∧ i ≤ n ∧ Pv i H, ⟨n, by simp, Nat.zero_le _, h0⟩, ?_⟩
 rintro i m H ⟨rfl, hi, p⟩
 have q := hG i H hi p
 by_cases hlt : i < n
 · exact .inr ⟨w.goes i H hlt q, Pv (i + 1), fun H' p' => ⟨n - (i + 1), by omega, rfl, hlt, p'⟩, fun x H' y => hs i x H H' hlt p (w.yields i H x H' hlt q y)⟩
 · have e : i = n := by omega
   subst e
   exact .inl ⟨w.stops H q, hd H p⟩
end L2
namespace Op
open PySem L2 PyProof.Rows
inductive ArgD where
 | none
 | dict (kvs : List (Str × PyData))
 | other (d : PyData)
def KvsR (K : PySem.W.Frag) (H : Hp) : List (Key × V) → List (Str × PyData) → Prop
 | [], [] => True
 | (k, v) :: r, (x, d) :: t => k = .inr x ∧ Dp K H v d ∧ KvsR K H r t
 | _, _ => False
def ArgV (K : PySem.W.Frag) (H : Hp) (v : V) : ArgD → Prop
 | .none => v = .non
 | .dict kvs => ∃ p vs, v = .ref p ∧ H p = some (.dK vs) ∧ KvsR K H vs kvs ∧ (kvs.map (·.1)).Nodup
 | .other d => Dp K H v d ∧ d ≠ .none
def argSmall : ArgD → Prop
 | .dict kvs => kvs.length ≤ 60 ∧ ∀ p ∈ kvs, p.1.length ≤ 100000 ∧ wt p.2 ≤ 100000
 | _ => True
def argL : V → List Addr
 | .ref p => [p]
 | _ => []
def argF : ArgD → V → List Addr
 | .dict _, v => argL v
 | _, _ => []
section
variable {K : PySem.W.Frag} {H H' : Hp}
theorem KvsR.kp (s : Kp H H') : ∀ {vs : List (Key × V)} {kvs : List (Str × PyData)}, KvsR K H vs kvs → KvsR K H' vs kvs
 | [], [], _ => trivial
 | (k, v) :: r, (x, d) :: t, ⟨h1, h2, h3⟩ => ⟨h1, h2.kp s, KvsR.kp s h3⟩
theorem KvsR.len : ∀ {vs : List (Key × V)} {kvs : List (Str × PyData)}, KvsR K H vs kvs → vs.length = kvs.length
 | [], [], _ => rfl
 | (k, v) :: r, (x, d) :: t, ⟨h1, h2, h3⟩ => congrArg Nat.succ (KvsR.len h3)
theorem KvsR.keys : ∀ {vs : List (Key × V)} {kvs : List (Str × PyData)}, KvsR K H vs kvs → vs.map (·.1) = (kvs.map (·.1)).map Sum.inr
 | [], [], _ => rfl
 | (k, v) :: r, (x, d) :: t, ⟨h1, h2, h3⟩ => by
   rw [List.map_cons, List.map_cons, List.map_cons, KvsR.keys h3, h1]
theorem KvsR.get : ∀ {vs : List (Key × V)} {kvs : List (Str × PyData)} {i : Nat} {k : Key} {v : V}, KvsR K H vs kvs → vs[i]? = some (k, v) → ∃ x d, kvs[i]? = some (x, d) ∧ k = .inr x ∧ Dp K H v d
 | [], [], i, k, v, _, h => by simp at h
 | (k, v) :: r, (x, d) :: t, 0, k', v', ⟨h1, h2, h3⟩, e => by
   obtain ⟨rfl, rfl⟩ := Prod.mk.inj (Option.some.inj e)
   exact ⟨x, d, rfl, h1, h2⟩
 | (k, v) :: r, (x, d) :: t, i + 1, k', v', ⟨h1, h2, h3⟩, e => KvsR.get (i := i) h3 e
def lk (kvs : List (Str × PyData)) (y : Str) : PyData := (kvs.lookup y).getD .none
theorem KvsR.val : ∀ {vs : List (Key × V)} {kvs : List (Str × PyData)} (y : Str), KvsR K H vs kvs → y ∈ kvs.map (·.1) → ∃ v, valV vs (.inr y) = some v ∧ Dp K H v (lk kvs y)
 | [], [], y, _, h => by simp at h
 | (k, v) :: r, (x, d) :: t, y, ⟨h1, h2, h3⟩, h => by
   by_cases e : y = x
   · subst e
     refine ⟨v, by rw [h1]; exact valV_pos rfl, ?_⟩
     unfold lk
     rw [List.lookup_cons, beq_self_eq_true]
     exact h2
   · have hm : y ∈ t.map (·.1) := by
       rw [List.map_cons] at h
       exact (List.mem_cons.mp h).resolve_left e
     obtain ⟨w, g1, g2⟩ := KvsR.val y h3 hm
     refine ⟨w, by rw [h1, valV_neg (fun q => e (Sum.inr.inj q).symm)]; exact g1, ?_⟩
     unfold lk at g2 ⊢
     rw [List.lookup_cons, show (y == x) = false by simpa using e]
     exact g2
theorem lk_self : ∀ {kvs : List (Str × PyData)}, (kvs.map (·.1)).Nodup → (kvs.map (·.1)).map (fun y => (y, lk kvs y)) = kvs := by
 intro kvs
 induction kvs with
 | nil => intro _; rfl
 | cons p r ih =>
   obtain ⟨x, d⟩ := p
   intro h
   rw [List.map_cons, List.nodup_cons] at h
   rw [List.map_cons, List.map_cons]
   have e1 : lk ((x, d) :: r) x = d := by
     unfold lk
     rw [List.lookup_cons, beq_self_eq_true]
     rfl
   rw [e1]
   have e2 : (r.map (·.1)).map (fun y => (y, lk ((x, d) :: r) y)) = (r.map (·.1)).map (fun y => (y, lk r y)) := List.map_congr_left fun y hy => by
     have : (y == x) = false := by simpa using fun e : y = x => h.1 (e ▸ hy)
     unfold lk
     rw [List.lookup_cons, this]
   rw [e2, ih h.2]
end
def okTab (ok : PyData → Bool) (most : Nat) : ArgD → Option (List (Str × PyData))
 | .none => some []
 | .other _ => none
 | .dict kvs => if kvs.length ≤ most ∧ (kvs.all fun p => isWordS p.1 && ok p.2) = true then some kvs else none
section
variable {P : Program} {w : World} {K : PySem.W.Frag} {mg : Str → Option Value} {base : Heap} {pS CI : Addr}
def spTab (K : PySem.W.Frag) (CI : Addr) (part : Str) (ok : PyData → Bool) (most : Nat) : Sp := fun vs H Q X => ∃ v a, vs = [v] ∧ ArgV K H v a ∧ argSmall a ∧
 (∀ kvs, okTab ok most a = some kvs → ∀ p' H' ws kvs', Same H H' → H p' = none → H' p' = some (.dK ws) → kvs'.Perm kvs → sortedS (kvs'.map (·.1)) = true → KvsR K H' ws kvs' → Q (.ref p') H') ∧
 (okTab ok most a = none → ∀ H' d, Fr (argF a v) H H' → XProg K H' d part [] → X (.ref CI) (some d) H')
theorem nodup_take {ys : List Str} {i : Nat} {y : Str} (h : ys.Nodup) (e : ys[i]? = some y) : y ∉ ys.take i := fun m => by
 obtain ⟨j, hj⟩ := List.getElem?_of_mem m
 have hji : j < i := by
   have := (List.getElem?_eq_some_iff.mp hj).1
   rw [List.length_take] at this
   omega
 rw [List.getElem?_take, if_pos hji] at hj
 obtain ⟨h1, e1⟩ := List.getElem?_eq_some_iff.mp hj
 obtain ⟨h2, e2⟩ := List.getElem?_eq_some_iff.mp e
 exact (List.pairwise_iff_getElem.mp h) j i h1 h2 hji (e1.trans e2.symm)
theorem tyV_dK {H : Hp} {p : Addr} {kvs : List (Key × V)} (h : H p = some (.dK kvs)) : tyV K "dict" (.ref p) H := .inr (.inr (.inl ⟨rfl, .inl ⟨kvs, h⟩⟩))
theorem kit_dictK {H : Hp} {p : Addr} {kvs : List (Key × V)} (h : H p = some (.dK kvs)) : TyX K H (.ref p) (.type "dict") := .base (.dK h)
theorem sc_checked_asks : FnScope ["value", "name", "words"] ["value"] (defScope s_checked_asks) := ⟨rfl, rfl, rfl, by decide +kernel, rfl, by decide +kernel, by decide +kernel⟩
theorem ok_checked_asks {f : Addr} {fd : FuncData} (F : Fun K "checked_asks" "checked_asks" s_checked_asks f fd) (T : TxtC P w K mg pS CI) (c_is_word : Cal P w K mg base CX0 1 "is_word" ["value"] (spWord K)) (c_are_words : Cal P w K mg base CX0 2 "are_words" ["value", "most"] (spAreWords K)) :
   FnOk P w K mg base (L2.CX P w) 3 f fd ["value"] (spTab K CI "asks" (areWords 4) 6) := by
 refine F.okX sc_checked_asks (fun vs H Q E h => ?_) (fun cdv A outer s H vs Q E hr h => ?_)
 · obtain ⟨v, a, rfl, _⟩ := h
   rfl
 · obtain ⟨v, a, rfl, hv, hsm, k1, k2⟩ := h
   have hu := hu_of hr
   refine ⟨_, (pss_cons (ps_if (pt_cmpR op_isN (pv 0) pe_non (nomark _)) (pss_one (ps_ret pe_dnewK)) pss_nil)
     (pss_cons (ps_if (PW.pt (pw_or (pt_not (pt_val (pe_callB call_isi (by rfl) T.b_isinstance (by decide +kernel) (pa_cons (pv 0) (pa_cons (pe_bltn (v := .ty "dict") (by rfl) T.b_dict (by decide +kernel) rfl) pa_nil))))) (pw_or1 (pt_cmpR op_gt (pe_callB call_lenD (by rfl) T.b_len (by decide +kernel) (pa_cons (pv 0) pa_nil)) pe_int (nomark _))))) (pss_one (ps_raise rfl (takes_of rfl rfl rfl rfl) (pmk_x T.mk_InvalidProgram hr rfl T.g_InvalidProgram T.k_InvalidProgram T.r_InvalidProgram (pa_cons pe_str (pa_cons (pe_tup pa_nil) pa_nil))))) pss_nil)
     (pss_cons (ps_lock (ps_for (passes_of rfl) rfl (pi_items (pv 0)) (pg_tup rfl (pgs_cons (pg_name (i := 1) sc_checked_asks.nd rfl (.inl rfl)) (pgs_cons (pg_name (i := 2) sc_checked_asks.nd rfl (.inl rfl)) pgs_nil))) (pss_one (ps_if (PW.pt (pw_or (pt_not (pt_val (pe_cal c_is_word (hr.mono (by omega)) rfl pass0 (pa_cons (pv 1) pa_nil)))) (pw_or1 (pt_not (pt_val (pe_cal c_are_words (hr.mono (by omega)) rfl pass0 (pa_cons (pv 2) (pa_cons pe_int pa_nil)))))))) (pss_one (ps_raise rfl (takes_of rfl rfl rfl rfl) (pmk_x T.mk_InvalidProgram hr rfl T.g_InvalidProgram T.k_InvalidProgram T.r_InvalidProgram (pa_cons pe_str (pa_cons (pe_tup pa_nil) pa_nil))))) pss_nil))))
     (pss_one (ps_ret (pe_dc (own := [("name", 1)]) (g := gName 1) (tt := tYes) rfl sc_checked_asks.nd (pi_list (pe_callB (call_sortedKV rfl) (by rfl) T.b_sorted (by decide +kernel) (pa_cons (pe_bm0 PySem.F.plainAttrs_dict PySem.F.slot_dict_keys PySem.F.type_dict_keys mt_keysV (pv 0)) pa_nil))) (blkOk_by (own := [("name", 1)]) (N := ["value", "name", "words"]) (sc := defScope s_checked_asks) (by decide +kernel)) (fun _ _ _ _ _ => (pg_name (i := 1) sc_checked_asks.nd rfl (.inl rfl))) (fun _ _ _ _ _ => pts_nil) (fun _ _ _ _ _ => (pv 1)) (fun _ _ _ _ _ => (pe_dget hu (pv 0) (pv 1) (fun _ _ => rfl))))))))), ?_⟩
   have fin : (∀ H' dd, Fr (argF a v) H H' → XProg K H' dd "asks" [] → E (.ref CI) (some dd) H') → ∀ H1, Fr (argF a v) H H1 → ∀ p, H1 p = none → ∀ d, upd H1 p (.tup []) d = none → E (.ref CI) (some d) (upd (upd H1 p (.tup [])) d (.xd [("path", .ref p), ("part", .str "asks")])) := by
     intro k H1 f1 p hp d hd
     refine k _ d (f1.trans ((Same.new hp).trans (Same.new hd)).fr) ⟨p, upd_same, ?_⟩
     exact SqT.mono (.inl (.inl upd_same)) (Same.new hd)
   cases a with
   | none =>
     obtain rfl := hv
     refine ⟨_, rfl, rfl, _, rfl, ifT rfl fun p hp => ?_⟩
     exact k1 [] rfl p _ [] [] (Same.new hp) hp upd_same .nil rfl trivial
   | other d =>
     obtain ⟨hd, hn⟩ := hv
     have hvn : decide (v = .non) = false := decide_eq_false fun e => by
       subst e
       cases hd
       exact hn rfl
     refine ⟨_, rfl, rfl, _, rfl, ?_⟩
     rw [hvn]
     refine ifF rfl ⟨_, rfl, v, _, _, _, _, rfl, .ty _, ty_dp hd, kit_dict d, _, rfl, ?_⟩
     have fin' : ∀ p, H p = none → ∀ d, upd H p (.tup []) d = none → E (.ref CI) (some d) (upd (upd H p (.tup [])) d (.xd [("path", .ref p), ("part", .str "asks")])) := fin (k2 rfl) H Fr.refl
     cases hd <;> exact ifT rfl (ifT rfl ⟨sz_lit (by decide), fun p hp => ⟨rfl, fun d hd => fin' p hp d hd⟩⟩)
   | dict kvs =>
     obtain ⟨p, vs, rfl, hp, hkv, hnd⟩ := hv
     obtain ⟨hl60, hsmall⟩ := hsm
     have hlen := hkv.len
     refine ⟨_, rfl, rfl, _, rfl, ifF rfl ?_⟩
     refine ⟨_, rfl, .ref p, _, _, _, _, rfl, .ty _, kit_dictK hp, kit_ty (show kitB "dict" "dict" = some true by decide +kernel), _, rfl, ifF rfl ?_⟩
     refine ⟨_, rfl, p, vs, rfl, hp, _, _, rfl, rfl, _, rfl, ?_⟩
     by_cases e1 : 6 < vs.length
     · refine ifT (decide_eq_true (show (6 : Int) < (vs.length : Int) by omega)) ?_
       have : okTab (areWords 4) 6 (.dict kvs) = none := if_neg fun h => by omega
       exact ⟨sz_lit (by decide), fun q hq => ⟨rfl, fun d hd => fin (k2 this) H Fr.refl q hq d hd⟩⟩
     refine ifF (decide_eq_false (show ¬ (6 : Int) < (vs.length : Int) by omega)) ?_
     refine ⟨p, _, hp, trivial, fun od => ?_⟩
     have kp1 : Kp H (upd H p (.frz od (.dK vs))) := fun b o hb ho => by
       have : b ≠ p := fun e => by rw [e, hp] at hb; cases hb; cases ho
       rw [upd_ne this]
       exact hb
     have fr1 : Fr (argF (.dict kvs) (.ref p)) H (upd H p (.frz od (.dK vs))) := Fr.refl.upd (by simp [argF, argL])
     refine ⟨_, rfl, p, od, vs, rfl, upd_same, ?_⟩
     refine for_it walk_items (fun i σ H' => (∃ y1 y2 : Option V, σ = [some (.ref p), y1, y2]) ∧ Same (upd H p (.frz od (.dK vs))) H' ∧ ((kvs.take i).all fun q => isWordS q.1 && areWords 4 q.2) = true) ⟨⟨_, _, rfl⟩, Same.refl _, rfl⟩ (fun i σ H' _ q => q.2.1 _ _ upd_same) ?_ ?_
     · rintro i v σ H1 H2 hi ⟨⟨y1, y2, rfl⟩, s1, hall⟩ ⟨T0, x, y, rfl, hT0, rfl, hx, hy⟩
       have hvi : vs[i]? = some vs[i] := List.getElem?_eq_getElem hi
       have hx : Option.map (fun kv => kV kv.1) vs[i]? = some x := hx
       have hy : Option.map Prod.snd vs[i]? = some y := hy
       rw [hvi] at hx hy
       obtain ⟨xk, d, hki, hk, hdy⟩ := hkv.get (k := vs[i].1) (v := vs[i].2) hvi
       obtain rfl : x = .str xk := by
         rw [← Option.some.inj hx]
         show kV vs[i].1 = _
         rw [hk]
         rfl
       obtain rfl : y = vs[i].2 := (Option.some.inj hy).symm
       obtain ⟨hs1, hs2⟩ := hsmall (xk, d) (List.mem_of_getElem? hki)
       have sm2 : Same H1 (upd H1 T0 (.tup [.str xk, vs[i].2])) := Same.new hT0
       refine ⟨T0, _, rfl, .inl (.inl upd_same), rfl, _, _, rfl, _, _, rfl, rfl, ?_⟩
       have s2 := s1.trans sm2
       revert s2
       generalize upd H1 T0 (.tup [.str xk, vs[i].2]) = H2
       intro s2
       have hdy2 : Dp K H2 vs[i].2 d := hdy.kp (kp1.trans s2.kp)
       refine ⟨_, rfl, .str xk, .str xk, rfl, .str xk, fun z e => by cases e; exact hs1, _, rfl, ?_⟩
       have bad : (isWordS xk && areWords 4 d) = false → okTab (areWords 4) 6 (.dict kvs) = none := fun hb => if_neg fun h => by
         have := List.all_eq_true.mp h.2 (xk, d) (List.mem_of_getElem? hki)
         rw [hb] at this
         cases this
       have up : ∀ q, H2 q = none → ∀ d, upd H2 q (.tup []) d = none → okTab (areWords 4) 6 (.dict kvs) = none → E (.ref CI) (some d) (upd (upd H2 q (.tup [])) d (.xd [("path", .ref q), ("part", .str "asks")])) := fun q hq d hd hn => fin (k2 hn) H2 (fr1.trans s2.fr) q hq d hd
       by_cases w1 : isWordS xk = true
       · rw [show isWord (.str xk) = true from w1]
         refine ifF rfl ⟨_, rfl, vs[i].2, d, 4, rfl, hdy2, small_of d hs2, by decide, _, rfl, ?_⟩
         by_cases w2 : areWords 4 d = true
         · rw [w2]
           refine ifF rfl ⟨⟨_, _, rfl⟩, s2, ?_⟩
           rw [TS.take_one hki, List.all_append, hall]
           simp [w1, w2]
         · rw [Bool.eq_false_iff.mpr w2]
           refine ifT rfl ⟨sz_lit (by decide), fun q hq => ⟨rfl, fun d hd => up q hq d hd (bad ?_)⟩⟩
           rw [Bool.eq_false_iff.mpr w2, Bool.and_false]
       · rw [show isWord (.str xk) = false from Bool.eq_false_iff.mpr w1]
         refine ifT rfl (ifT rfl ⟨sz_lit (by decide), fun q hq => ⟨rfl, fun d hd => up q hq d hd (bad ?_)⟩⟩)
         rw [Bool.eq_false_iff.mpr w1, Bool.false_and]
     · rintro σ H1 ⟨⟨y1, y2, rfl⟩, s1, hall⟩
       rw [List.take_of_length_le (by omega)] at hall
       refine ⟨s1 _ _ upd_same, ?_⟩
       have good : okTab (areWords 4) 6 (.dict kvs) = some kvs := if_pos ⟨by omega, hall⟩
       have sA : Same H (upd H1 p (.dK vs)) := fun b o hb => by
         by_cases e : b = p
         · subst e
           rw [hp] at hb
           rw [upd_same]
           exact hb
         · rw [upd_ne e]
           refine s1 b o ?_
           rw [upd_ne e]
           exact hb
       have hpA : upd H1 p (.dK vs) p = some (.dK vs) := upd_same
       revert sA hpA
       generalize upd H1 p (.dK vs) = H2
       intro sA hpA
       refine ⟨_, rfl, tyV_dK hpA, p, vs, rfl, rfl, .inl hpA, fun q hq => ?_⟩
       have sB : Same H2 (upd H2 q (keysO q p)) := Same.new hq
       refine ⟨q, p, vs, kvs.map (·.1), rfl, upd_same, .inl (sB _ _ hpA), hkv.keys, by rw [List.length_map]; omega, fun ys l hperm hsort hl => ?_⟩
       have sC := sB.trans (Same.new (o := .lst (ys.map V.str)) hl)
       have hlC : upd (upd H2 q (keysO q p)) l (.lst (ys.map V.str)) l = some (.lst (ys.map V.str)) := upd_same
       revert sC hlC
       generalize upd (upd H2 q (keysO q p)) l (.lst (ys.map V.str)) = H3
       intro sC hlC
       refine ⟨l, rfl, ⟨_, .inl (.inl hlC)⟩, fun D hD => ?_⟩
       have hnd' : ys.Nodup := hperm.nodup_iff.mpr hnd
       have hyl : ys.length = kvs.length := by rw [hperm.length_eq, List.length_map]
       have hDS : Same H3 (upd H3 D (.dK [])) := Same.new hD
       refine dc_it (walk_list (xs := ys.map V.str)) (fun i H' => H' D = some (.dK ((ys.take i).map fun y => (Sum.inr y, (valV vs (.inr y)).getD .non))) ∧ Same H3 H') ⟨upd_same, hDS⟩ (fun i H' _ q => .inl (.inl (q.2 _ _ hlC))) ?_ ?_
       · rintro i x H5 H4 hi ⟨hD4, s4⟩ ⟨rfl, hx⟩
         have hi' : i < ys.length := by rw [List.length_map] at hi; exact hi
         have hyi : ys[i]? = some ys[i] := List.getElem?_eq_getElem hi'
         obtain rfl : x = .str ys[i] := by
           rw [List.getElem?_map, hyi] at hx
           exact (Option.some.inj hx).symm
         obtain ⟨v, hv1, hv2⟩ := hkv.val ys[i] (hperm.mem_iff.mp (List.mem_of_getElem? hyi))
         have hp4 : H4 p = some (.dK vs) := s4 _ _ (sC _ _ hpA)
         refine ⟨rfl, ?_⟩
         refine ⟨_, rfl, _, rfl, _, rfl, p, v, rfl, by rw [← hv1]; exact dget_known hp4, _, .inr ys[i], rfl, hD4, lt_sz (by rw [List.length_map, List.length_take]; omega), ?_, fun b o hb => ?_⟩
         · rw [upd_same, putK_new]
           · rw [TS.take_one hyi, List.map_append, List.map_cons, List.map_nil, hv1]
             rfl
           · have : ∀ l : List Str, ys[i] ∉ l → valV (l.map fun y => ((Sum.inr y : Key), (valV vs (.inr y)).getD .non)) (.inr ys[i]) = none := by
               intro l
               induction l with
               | nil => intro _; rfl
               | cons z r ih =>
                 intro hz
                 rw [List.mem_cons, not_or] at hz
                 rw [List.map_cons, valV_neg (fun e => hz.1 (Sum.inr.inj e).symm)]
                 exact ih hz.2
             exact this _ (nodup_take hnd' hyi)
         · have : b ≠ D := fun e => by rw [e, hD] at hb; cases hb
           rw [upd_ne this]
           exact s4 b o hb
       · rintro H4 ⟨hD4, s4⟩
         rw [List.length_map, List.take_length] at hD4
         have sall : Same H H4 := sA.trans (sC.trans s4)
         refine k1 kvs good D H4 _ (ys.map fun y => (y, lk kvs y)) sall ?_ hD4 ?_ ?_ ?_
         · exact (sA.trans sC).free hD
         · have := hperm.map (fun y => (y, lk kvs y))
           rw [lk_self hnd] at this
           exact this
         · rw [List.map_map]
           have : ((fun x : Str × PyData => x.1) ∘ fun y => (y, lk kvs y)) = id := by funext y; rfl
           rw [this, List.map_id]
           exact hsort
         · have : ∀ l : List Str, (∀ y ∈ l, y ∈ kvs.map (·.1)) → KvsR K H4 (l.map fun y => ((Sum.inr y : Key), (valV vs (.inr y)).getD .non)) (l.map fun y => (y, lk kvs y)) := by
             intro l
             induction l with
             | nil => intro _; exact trivial
             | cons z r ih =>
               intro hz
               obtain ⟨v, hv1, hv2⟩ := hkv.val z (hz z List.mem_cons_self)
               refine ⟨rfl, ?_, ih fun y hy => hz y (List.mem_cons_of_mem _ hy)⟩
               show Dp K H4 ((valV vs (.inr z)).getD .non) _
               rw [hv1]
               exact hv2.mono sall
           exact this ys fun y hy => hperm.mem_iff.mp hy
end
end Op
namespace Op
open PySem L2 PyProof.Rows
def isBox : PyData → Bool
 | .tuple [.int n, d] => decide (1 ≤ n ∧ n ≤ 3) && areWords 3 d
 | _ => false
section
variable {P : Program} {w : World} {K : PySem.W.Frag} {mg : Str → Option Value} {base : Heap} {pS CI : Addr}
theorem small_tup {ds : List PyData} (h : small (.tuple ds) = true) : smalls ds = true := by
 unfold small at h
 exact (Bool.and_eq_true_iff.mp h).2
def spInt (K : PySem.W.Frag) : Sp := fun vs H Q _ => ∃ (v : V) (d : PyData), vs = [v] ∧ Dp K H v d ∧ Q (.bl (isInt d)) H
theorem sc_is_integer : FnScope ["value"] ["value"] (defScope s_is_integer) := ⟨rfl, rfl, rfl, by decide +kernel, rfl, by decide +kernel, by decide +kernel⟩
theorem ok_is_integer {f : Addr} {fd : FuncData} (F : Fun K "is_integer" "is_integer" s_is_integer f fd) (T : Txt mg) : FnOk P w K mg base CX0 1 f fd ["value"] (spInt K) := by
 refine F.ok sc_is_integer (fun vs H Q E h => ?_) (fun cdv A outer s H vs Q E hr h => ?_)
 · obtain ⟨v, d, rfl, _⟩ := h
   rfl
 · obtain ⟨v, d, rfl, hd, k⟩ := h
   refine ⟨_, (pss_one (ps_ret (pe_and (pe_callB call_isi (by rfl) T.b_isinstance (by decide +kernel) (pa_cons (pv 0) (pa_cons (pe_bltn (v := .ty "int") (by rfl) T.b_int (by decide +kernel) rfl) pa_nil))) (pe_one (pe_not (pe_callB call_isi (by rfl) T.b_isinstance (by decide +kernel) (pa_cons (pv 0) (pa_cons (pe_bltn (v := .ty "bool") (by rfl) T.b_bool (by decide +kernel) rfl) pa_nil)))))))), ?_⟩
   refine ⟨_, rfl, v, _, _, _, _, rfl, .ty _, ty_dp hd, kit_int d, _, rfl, ?_⟩
   cases hd with
   | int i => exact ifT rfl ⟨_, rfl, .int i, _, _, _, _, rfl, .ty _, ty_dp (.int i), kit_bool (.int i), _, rfl, k⟩
   | bl b => exact ifT rfl ⟨_, rfl, .bl b, _, _, _, _, rfl, .ty _, ty_dp (.bl b), kit_bool (.bool b), _, rfl, k⟩
   | _ => exact ifF rfl k
def spBox (K : PySem.W.Frag) : Sp := fun vs H Q _ => ∃ (v : V) (d : PyData), vs = [v] ∧ Dp K H v d ∧ small d = true ∧ Q (.bl (isBox d)) H
theorem sc_is_box : FnScope ["value"] ["value"] (defScope s_is_box) := ⟨rfl, rfl, rfl, by decide +kernel, rfl, by decide +kernel, by decide +kernel⟩
theorem ok_is_box {f : Addr} {fd : FuncData} (F : Fun K "is_box" "is_box" s_is_box f fd) (T : Txt mg) (c_is_integer : Cal P w K mg base CX0 1 "is_integer" ["value"] (spInt K)) (c_are_words : Cal P w K mg base CX0 2 "are_words" ["value", "most"] (spAreWords K)) : FnOk P w K mg base CX0 3 f fd ["value"] (spBox K) := by
 refine F.ok sc_is_box (fun vs H Q E h => ?_) (fun cdv A outer s H vs Q E hr h => ?_)
 · obtain ⟨v, d, rfl, _⟩ := h
   rfl
 · obtain ⟨v, d, rfl, hd, hs, k⟩ := h
   refine ⟨_, (pss_cons (ps_if (PW.pt (pw_or (pt_not (pt_val (pe_callB call_isi (by rfl) T.b_isinstance (by decide +kernel) (pa_cons (pv 0) (pa_cons (pe_bltn (v := .ty "tuple") (by rfl) T.b_tuple (by decide +kernel) rfl) pa_nil))))) (pw_or (pt_cmpR op_ne (pe_callB call_len_seq (by rfl) T.b_len (by decide +kernel) (pa_cons (pv 0) pa_nil)) pe_int (nomark _)) (pw_or1 (pt_not (pt_val (pe_cal c_is_integer (hr.mono (by omega)) rfl pass0 (pa_cons (pe_ix ix_tup (pv 0) pe_int (fun _ _ => rfl)) pa_nil)))))))) (pss_one (ps_ret pe_bl)) pss_nil)
     (pss_one (ps_ret (pe_and (pe_chain op_le op_le pe_int (pe_ix ix_tup (pv 0) pe_int (fun _ _ => rfl)) pe_int) (pe_one (pe_cal c_are_words (hr.mono (by omega)) rfl pass0 (pa_cons (pe_ix ix_tup (pv 0) pe_int (fun _ _ => rfl)) (pa_cons pe_int pa_nil)))))))), ?_⟩
   refine ⟨_, rfl, v, _, _, _, _, rfl, .ty _, ty_dp hd, kit_tuple d, _, rfl, ?_⟩
   cases hd with
   | @tup a xs ds hq ha =>
     refine ifF rfl ⟨_, rfl, a, xs, rfl, .inr hq, rfl, _, rfl, ?_⟩
     have hlen := ha.len
     by_cases c : xs.length = 2
     · rw [c]
       refine ifF rfl ?_
       match xs, ds, ha, c, hlen, hq, hs, k with
       | [x, y], [d0, d1], .cons h0 (.cons h1 .nil), _, _, hq, hs, k =>
         refine ⟨_, rfl, a, _, 0, _, rfl, rfl, hq, atI_zero _ _, x, d0, rfl, h0, _, rfl, ?_⟩
         by_cases ci : isInt d0 = true
         · rw [ci]
           refine ifF rfl ?_
           cases h0 with
           | int n =>
             have hs1 : small d1 = true := smalls_get (ds := [.int n, d1]) (i := 1) (small_tup hs) rfl
             have e : isBox (.tuple [.int n, d1]) = (decide (1 ≤ n ∧ n ≤ 3) && areWords 3 d1) := rfl
             rw [e] at k
             refine ⟨_, rfl, a, _, 0, _, rfl, rfl, hq, atI_zero _ _, _, _, rfl, rfl, _, rfl, ?_⟩
             by_cases c1 : 1 ≤ n
             · refine ifT (decide_eq_true c1) ⟨_, _, rfl, rfl, _, rfl, ?_⟩
               by_cases c2 : n ≤ 3
               · rw [decide_eq_true (⟨c1, c2⟩ : 1 ≤ n ∧ n ≤ 3)] at k
                 exact ifT (decide_eq_true c2) ⟨_, rfl, a, _, 1, _, rfl, rfl, hq, atI_one _ _ _, y, d1, 3, rfl, h1, hs1, by decide, k⟩
               · rw [decide_eq_false (fun h => c2 h.2 : ¬ (1 ≤ n ∧ n ≤ 3))] at k
                 exact ifF (decide_eq_false c2) k
             · rw [decide_eq_false (fun h => c1 h.1 : ¬ (1 ≤ n ∧ n ≤ 3))] at k
               exact ifF (decide_eq_false c1) ⟨_, rfl, ifF rfl k⟩
           | _ => cases ci
         · rw [Bool.eq_false_iff.mpr ci]
           refine ifT rfl ?_
           have : isBox (.tuple [d0, d1]) = false := by cases d0 <;> first | rfl | exact absurd rfl ci
           rw [this] at k
           exact k
     · refine ifT (by rw [decide_eq_false (by intro z; injection z with z; omega)]; rfl) (ifT rfl ?_)
       · have : isBox (.tuple ds) = false := by
           match ds, hlen with
           | [], _ => rfl
           | [x], _ => cases x <;> rfl
           | [_, _], h => exact absurd h c
           | x :: _ :: _ :: _, _ => cases x <;> rfl
         rw [this] at k
         exact k
   | _ => exact ifT rfl (ifT rfl k)
theorem sc_checked_signals : FnScope ["value", "name", "box"] ["value"] (defScope s_checked_signals) := ⟨rfl, rfl, rfl, by decide +kernel, rfl, by decide +kernel, by decide +kernel⟩
theorem ok_checked_signals {f : Addr} {fd : FuncData} (F : Fun K "checked_signals" "checked_signals" s_checked_signals f fd) (T : TxtC P w K mg pS CI) (c_is_word : Cal P w K mg base CX0 1 "is_word" ["value"] (spWord K)) (c_is_box : Cal P w K mg base CX0 3 "is_box" ["value"] (spBox K)) :
   FnOk P w K mg base (L2.CX P w) 4 f fd ["value"] (spTab K CI "signals" isBox 3) := by
 refine F.okX sc_checked_signals (fun vs H Q E h => ?_) (fun cdv A outer s H vs Q E hr h => ?_)
 · obtain ⟨v, a, rfl, _⟩ := h
   rfl
 · obtain ⟨v, a, rfl, hv, hsm, k1, k2⟩ := h
   have hu := hu_of hr
   refine ⟨_, (pss_cons (ps_if (pt_cmpR op_isN (pv 0) pe_non (nomark _)) (pss_one (ps_ret pe_dnewK)) pss_nil)
     (pss_cons (ps_if (PW.pt (pw_or (pt_not (pt_val (pe_callB call_isi (by rfl) T.b_isinstance (by decide +kernel) (pa_cons (pv 0) (pa_cons (pe_bltn (v := .ty "dict") (by rfl) T.b_dict (by decide +kernel) rfl) pa_nil))))) (pw_or1 (pt_cmpR op_gt (pe_callB call_lenD (by rfl) T.b_len (by decide +kernel) (pa_cons (pv 0) pa_nil)) pe_int (nomark _))))) (pss_one (ps_raise rfl (takes_of rfl rfl rfl rfl) (pmk_x T.mk_InvalidProgram hr rfl T.g_InvalidProgram T.k_InvalidProgram T.r_InvalidProgram (pa_cons pe_str (pa_cons (pe_tup pa_nil) pa_nil))))) pss_nil)
     (pss_cons (ps_lock (ps_for (passes_of rfl) rfl (pi_items (pv 0)) (pg_tup rfl (pgs_cons (pg_name (i := 1) sc_checked_signals.nd rfl (.inl rfl)) (pgs_cons (pg_name (i := 2) sc_checked_signals.nd rfl (.inl rfl)) pgs_nil))) (pss_one (ps_if (PW.pt (pw_or (pt_not (pt_val (pe_cal c_is_word (hr.mono (by omega)) rfl pass0 (pa_cons (pv 1) pa_nil)))) (pw_or1 (pt_not (pt_val (pe_cal c_is_box (hr.mono (by omega)) rfl pass0 (pa_cons (pv 2) pa_nil))))))) (pss_one (ps_raise rfl (takes_of rfl rfl rfl rfl) (pmk_x T.mk_InvalidProgram hr rfl T.g_InvalidProgram T.k_InvalidProgram T.r_InvalidProgram (pa_cons pe_str (pa_cons (pe_tup pa_nil) pa_nil))))) pss_nil))))
     (pss_one (ps_ret (pe_dc (own := [("name", 1)]) (g := gName 1) (tt := tYes) rfl sc_checked_signals.nd (pi_list (pe_callB (call_sortedKV rfl) (by rfl) T.b_sorted (by decide +kernel) (pa_cons (pe_bm0 PySem.F.plainAttrs_dict PySem.F.slot_dict_keys PySem.F.type_dict_keys mt_keysV (pv 0)) pa_nil))) (blkOk_by (own := [("name", 1)]) (N := ["value", "name", "box"]) (sc := defScope s_checked_signals) (by decide +kernel)) (fun _ _ _ _ _ => (pg_name (i := 1) sc_checked_signals.nd rfl (.inl rfl))) (fun _ _ _ _ _ => pts_nil) (fun _ _ _ _ _ => (pv 1)) (fun _ _ _ _ _ => (pe_dget hu (pv 0) (pv 1) (fun _ _ => rfl))))))))), ?_⟩
   have fin : (∀ H' dd, Fr (argF a v) H H' → XProg K H' dd "signals" [] → E (.ref CI) (some dd) H') → ∀ H1, Fr (argF a v) H H1 → ∀ p, H1 p = none → ∀ d, upd H1 p (.tup []) d = none → E (.ref CI) (some d) (upd (upd H1 p (.tup [])) d (.xd [("path", .ref p), ("part", .str "signals")])) := by
     intro k H1 f1 p hp d hd
     refine k _ d (f1.trans ((Same.new hp).trans (Same.new hd)).fr) ⟨p, upd_same, ?_⟩
     exact SqT.mono (.inl (.inl upd_same)) (Same.new hd)
   cases a with
   | none =>
     obtain rfl := hv
     refine ⟨_, rfl, rfl, _, rfl, ifT rfl fun p hp => ?_⟩
     exact k1 [] rfl p _ [] [] (Same.new hp) hp upd_same .nil rfl trivial
   | other d =>
     obtain ⟨hd, hn⟩ := hv
     have hvn : decide (v = .non) = false := decide_eq_false fun e => by
       subst e
       cases hd
       exact hn rfl
     refine ⟨_, rfl, rfl, _, rfl, ?_⟩
     rw [hvn]
     refine ifF rfl ⟨_, rfl, v, _, _, _, _, rfl, .ty _, ty_dp hd, kit_dict d, _, rfl, ?_⟩
     have fin' : ∀ p, H p = none → ∀ d, upd H p (.tup []) d = none → E (.ref CI) (some d) (upd (upd H p (.tup [])) d (.xd [("path", .ref p), ("part", .str "signals")])) := fin (k2 rfl) H Fr.refl
     cases hd <;> exact ifT rfl (ifT rfl ⟨sz_lit (by decide), fun p hp => ⟨rfl, fun d hd => fin' p hp d hd⟩⟩)
   | dict kvs =>
     obtain ⟨p, vs, rfl, hp, hkv, hnd⟩ := hv
     obtain ⟨hl60, hsmall⟩ := hsm
     have hlen := hkv.len
     refine ⟨_, rfl, rfl, _, rfl, ifF rfl ?_⟩
     refine ⟨_, rfl, .ref p, _, _, _, _, rfl, .ty _, kit_dictK hp, kit_ty (show kitB "dict" "dict" = some true by decide +kernel), _, rfl, ifF rfl ?_⟩
     refine ⟨_, rfl, p, vs, rfl, hp, _, _, rfl, rfl, _, rfl, ?_⟩
     by_cases e1 : 3 < vs.length
     · refine ifT (decide_eq_true (show (3 : Int) < (vs.length : Int) by omega)) ?_
       have : okTab isBox 3 (.dict kvs) = none := if_neg fun h => by omega
       exact ⟨sz_lit (by decide), fun q hq => ⟨rfl, fun d hd => fin (k2 this) H Fr.refl q hq d hd⟩⟩
     refine ifF (decide_eq_false (show ¬ (3 : Int) < (vs.length : Int) by omega)) ?_
     refine ⟨p, _, hp, trivial, fun od => ?_⟩
     have kp1 : Kp H (upd H p (.frz od (.dK vs))) := fun b o hb ho => by
       have : b ≠ p := fun e => by rw [e, hp] at hb; cases hb; cases ho
       rw [upd_ne this]
       exact hb
     have fr1 : Fr (argF (.dict kvs) (.ref p)) H (upd H p (.frz od (.dK vs))) := Fr.refl.upd (by simp [argF, argL])
     refine ⟨_, rfl, p, od, vs, rfl, upd_same, ?_⟩
     refine for_it walk_items (fun i σ H' => (∃ y1 y2 : Option V, σ = [some (.ref p), y1, y2]) ∧ Same (upd H p (.frz od (.dK vs))) H' ∧ ((kvs.take i).all fun q => isWordS q.1 && isBox q.2) = true) ⟨⟨_, _, rfl⟩, Same.refl _, rfl⟩ (fun i σ H' _ q => q.2.1 _ _ upd_same) ?_ ?_
     · rintro i v σ H1 H2 hi ⟨⟨y1, y2, rfl⟩, s1, hall⟩ ⟨T0, x, y, rfl, hT0, rfl, hx, hy⟩
       have hvi : vs[i]? = some vs[i] := List.getElem?_eq_getElem hi
       have hx : Option.map (fun kv => kV kv.1) vs[i]? = some x := hx
       have hy : Option.map Prod.snd vs[i]? = some y := hy
       rw [hvi] at hx hy
       obtain ⟨xk, d, hki, hk, hdy⟩ := hkv.get (k := vs[i].1) (v := vs[i].2) hvi
       obtain rfl : x = .str xk := by
         rw [← Option.some.inj hx]
         show kV vs[i].1 = _
         rw [hk]
         rfl
       obtain rfl : y = vs[i].2 := (Option.some.inj hy).symm
       obtain ⟨hs1, hs2⟩ := hsmall (xk, d) (List.mem_of_getElem? hki)
       have sm2 : Same H1 (upd H1 T0 (.tup [.str xk, vs[i].2])) := Same.new hT0
       refine ⟨T0, _, rfl, .inl (.inl upd_same), rfl, _, _, rfl, _, _, rfl, rfl, ?_⟩
       have s2 := s1.trans sm2
       revert s2
       generalize upd H1 T0 (.tup [.str xk, vs[i].2]) = H2
       intro s2
       have hdy2 : Dp K H2 vs[i].2 d := hdy.kp (kp1.trans s2.kp)
       refine ⟨_, rfl, .str xk, .str xk, rfl, .str xk, fun z e => by cases e; exact hs1, _, rfl, ?_⟩
       have bad : (isWordS xk && isBox d) = false → okTab isBox 3 (.dict kvs) = none := fun hb => if_neg fun h => by
         have := List.all_eq_true.mp h.2 (xk, d) (List.mem_of_getElem? hki)
         rw [hb] at this
         cases this
       have up : ∀ q, H2 q = none → ∀ d, upd H2 q (.tup []) d = none → okTab isBox 3 (.dict kvs) = none → E (.ref CI) (some d) (upd (upd H2 q (.tup [])) d (.xd [("path", .ref q), ("part", .str "signals")])) := fun q hq d hd hn => fin (k2 hn) H2 (fr1.trans s2.fr) q hq d hd
       by_cases w1 : isWordS xk = true
       · rw [show isWord (.str xk) = true from w1]
         refine ifF rfl ⟨_, rfl, vs[i].2, d, rfl, hdy2, small_of d hs2, _, rfl, ?_⟩
         by_cases w2 : isBox d = true
         · rw [w2]
           refine ifF rfl ⟨⟨_, _, rfl⟩, s2, ?_⟩
           rw [TS.take_one hki, List.all_append, hall]
           simp [w1, w2]
         · rw [Bool.eq_false_iff.mpr w2]
           refine ifT rfl ⟨sz_lit (by decide), fun q hq => ⟨rfl, fun d hd => up q hq d hd (bad ?_)⟩⟩
           rw [Bool.eq_false_iff.mpr w2, Bool.and_false]
       · rw [show isWord (.str xk) = false from Bool.eq_false_iff.mpr w1]
         refine ifT rfl (ifT rfl ⟨sz_lit (by decide), fun q hq => ⟨rfl, fun d hd => up q hq d hd (bad ?_)⟩⟩)
         rw [Bool.eq_false_iff.mpr w1, Bool.false_and]
     · rintro σ H1 ⟨⟨y1, y2, rfl⟩, s1, hall⟩
       rw [List.take_of_length_le (by omega)] at hall
       refine ⟨s1 _ _ upd_same, ?_⟩
       have good : okTab isBox 3 (.dict kvs) = some kvs := if_pos ⟨by omega, hall⟩
       have sA : Same H (upd H1 p (.dK vs)) := fun b o hb => by
         by_cases e : b = p
         · subst e
           rw [hp] at hb
           rw [upd_same]
           exact hb
         · rw [upd_ne e]
           refine s1 b o ?_
           rw [upd_ne e]
           exact hb
       have hpA : upd H1 p (.dK vs) p = some (.dK vs) := upd_same
       revert sA hpA
       generalize upd H1 p (.dK vs) = H2
       intro sA hpA
       refine ⟨_, rfl, tyV_dK hpA, p, vs, rfl, rfl, .inl hpA, fun q hq => ?_⟩
       have sB : Same H2 (upd H2 q (keysO q p)) := Same.new hq
       refine ⟨q, p, vs, kvs.map (·.1), rfl, upd_same, .inl (sB _ _ hpA), hkv.keys, by rw [List.length_map]; omega, fun ys l hperm hsort hl => ?_⟩
       have sC := sB.trans (Same.new (o := .lst (ys.map V.str)) hl)
       have hlC : upd (upd H2 q (keysO q p)) l (.lst (ys.map V.str)) l = some (.lst (ys.map V.str)) := upd_same
       revert sC hlC
       generalize upd (upd H2 q (keysO q p)) l (.lst (ys.map V.str)) = H3
       intro sC hlC
       refine ⟨l, rfl, ⟨_, .inl (.inl hlC)⟩, fun D hD => ?_⟩
       have hnd' : ys.Nodup := hperm.nodup_iff.mpr hnd
       have hyl : ys.length = kvs.length := by rw [hperm.length_eq, List.length_map]
       have hDS : Same H3 (upd H3 D (.dK [])) := Same.new hD
       refine dc_it (walk_list (xs := ys.map V.str)) (fun i H' => H' D = some (.dK ((ys.take i).map fun y => (Sum.inr y, (valV vs (.inr y)).getD .non))) ∧ Same H3 H') ⟨upd_same, hDS⟩ (fun i H' _ q => .inl (.inl (q.2 _ _ hlC))) ?_ ?_
       · rintro i x H5 H4 hi ⟨hD4, s4⟩ ⟨rfl, hx⟩
         have hi' : i < ys.length := by rw [List.length_map] at hi; exact hi
         have hyi : ys[i]? = some ys[i] := List.getElem?_eq_getElem hi'
         obtain rfl : x = .str ys[i] := by
           rw [List.getElem?_map, hyi] at hx
           exact (Option.some.inj hx).symm
         obtain ⟨v, hv1, hv2⟩ := hkv.val ys[i] (hperm.mem_iff.mp (List.mem_of_getElem? hyi))
         have hp4 : H4 p = some (.dK vs) := s4 _ _ (sC _ _ hpA)
         refine ⟨rfl, ?_⟩
         refine ⟨_, rfl, _, rfl, _, rfl, p, v, rfl, by rw [← hv1]; exact dget_known hp4, _, .inr ys[i], rfl, hD4, lt_sz (by rw [List.length_map, List.length_take]; omega), ?_, fun b o hb => ?_⟩
         · rw [upd_same, putK_new]
           · rw [TS.take_one hyi, List.map_append, List.map_cons, List.map_nil, hv1]
             rfl
           · have : ∀ l : List Str, ys[i] ∉ l → valV (l.map fun y => ((Sum.inr y : Key), (valV vs (.inr y)).getD .non)) (.inr ys[i]) = none := by
               intro l
               induction l with
               | nil => intro _; rfl
               | cons z r ih =>
                 intro hz
                 rw [List.mem_cons, not_or] at hz
                 rw [List.map_cons, valV_neg (fun e => hz.1 (Sum.inr.inj e).symm)]
                 exact ih hz.2
             exact this _ (nodup_take hnd' hyi)
         · have : b ≠ D := fun e => by rw [e, hD] at hb; cases hb
           rw [upd_ne this]
           exact s4 b o hb
       · rintro H4 ⟨hD4, s4⟩
         rw [List.length_map, List.take_length] at hD4
         have sall : Same H H4 := sA.trans (sC.trans s4)
         refine k1 kvs good D H4 _ (ys.map fun y => (y, lk kvs y)) sall ?_ hD4 ?_ ?_ ?_
         · exact (sA.trans sC).free hD
         · have := hperm.map (fun y => (y, lk kvs y))
           rw [lk_self hnd] at this
           exact this
         · rw [List.map_map]
           have : ((fun x : Str × PyData => x.1) ∘ fun y => (y, lk kvs y)) = id := by funext y; rfl
           rw [this, List.map_id]
           exact hsort
         · have : ∀ l : List Str, (∀ y ∈ l, y ∈ kvs.map (·.1)) → KvsR K H4 (l.map fun y => ((Sum.inr y : Key), (valV vs (.inr y)).getD .non)) (l.map fun y => (y, lk kvs y)) := by
             intro l
             induction l with
             | nil => intro _; exact trivial
             | cons z r ih =>
               intro hz
               obtain ⟨v, hv1, hv2⟩ := hkv.val z (hz z List.mem_cons_self)
               refine ⟨rfl, ?_, ih fun y hy => hz y (List.mem_cons_of_mem _ hy)⟩
               show Dp K H4 ((valV vs (.inr z)).getD .non) _
               rw [hv1]
               exact hv2.mono sall
           exact this ys fun y hy => hperm.mem_iff.mp hy
def spInputs (K : PySem.W.Frag) (CI : Addr) : Sp := fun vs H Q X => ∃ v d, vs = [v] ∧ Dp K H v d ∧ small d = true ∧ (areWords 3 d = true → Q v H) ∧ (areWords 3 d = false → ∀ H' dd, Same H H' → XProg K H' dd "inputs" [] → X (.ref CI) (some dd) H')
theorem sc_checked_inputs : FnScope ["value"] ["value"] (defScope s_checked_inputs) := ⟨rfl, rfl, rfl, by decide +kernel, rfl, by decide +kernel, by decide +kernel⟩
theorem ok_checked_inputs {f : Addr} {fd : FuncData} (F : Fun K "checked_inputs" "checked_inputs" s_checked_inputs f fd) (T : TxtC P w K mg pS CI) (c_are_words : Cal P w K mg base CX0 2 "are_words" ["value", "most"] (spAreWords K)) : FnOk P w K mg base (L2.CX P w) 3 f fd ["value"] (spInputs K CI) := by
 refine F.okX sc_checked_inputs (fun vs H Q E h => ?_) (fun cdv A outer s H vs Q E hr h => ?_)
 · obtain ⟨v, a, rfl, _⟩ := h
   rfl
 · obtain ⟨v, d, rfl, hd, hs, k1, k2⟩ := h
   refine ⟨_, (pss_cons (ps_if (pt_not (pt_val (pe_cal c_are_words (hr.mono (by omega)) rfl pass0 (pa_cons (pv 0) (pa_cons pe_int pa_nil))))) (pss_one (ps_raise rfl (takes_of rfl rfl rfl rfl) (pmk_x T.mk_InvalidProgram hr rfl T.g_InvalidProgram T.k_InvalidProgram T.r_InvalidProgram (pa_cons pe_str (pa_cons (pe_tup pa_nil) pa_nil))))) pss_nil)
     (pss_one (ps_ret (pv 0)))), ?_⟩
   refine ⟨_, rfl, v, d, 3, rfl, hd, hs, by decide, _, rfl, ?_⟩
   by_cases c : areWords 3 d = true
   · rw [c]
     exact ifF rfl ⟨_, rfl, k1 c⟩
   · have c := Bool.eq_false_iff.mpr c
     rw [c]
     refine ifT rfl ⟨sz_lit (by decide), fun p hp => ⟨rfl, fun dd hdd => ?_⟩⟩
     refine k2 c _ dd ((Same.new hp).trans (Same.new hdd)) ⟨p, upd_same, ?_⟩
     exact SqT.mono (.inl (.inl upd_same)) (Same.new hdd)
end
end Op
namespace Op
open PySem L2 PyProof.Rows
def notList (d : PyData) : Bool := !isList d
mutual
def noL : PyData → Bool
 | .list _ => false
 | .tuple xs => noLs xs
 | _ => true
def noLs : List PyData → Bool
 | [] => true
 | x :: r => noL x && noLs r
end
theorem noLs_mem : ∀ {ds : List PyData}, noLs ds = true ↔ ∀ d ∈ ds, noL d = true
 | [] => by
   unfold noLs
   exact ⟨fun _ d h => (List.not_mem_nil h).elim, fun _ => rfl⟩
 | x :: r => by
   unfold noLs
   rw [Bool.and_eq_true_iff, noLs_mem (ds := r)]
   constructor
   · rintro ⟨h1, h2⟩ d hd
     rcases List.mem_cons.mp hd with rfl | hd
     · exact h1
     · exact h2 d hd
   · intro h
     exact ⟨h x List.mem_cons_self, fun d hd => h d (List.mem_cons_of_mem _ hd)⟩
theorem noL_word {d : PyData} (h : isWord d = true) : noL d = true := by
 cases d with
 | str _ => unfold noL; rfl
 | _ => cases h
theorem noL_words {m : Int} {d : PyData} (h : areWords m d = true) : noL d = true := by
 obtain ⟨zs, rfl, _⟩ := aw_tup h
 unfold noL
 refine noLs_mem.mpr fun d hd => ?_
 obtain ⟨z, _, rfl⟩ := List.mem_map.mp hd
 unfold noL
 rfl
def rowOk (rec : List PyData → Prop) : PyData → Prop
 | .tuple (.str kind :: parts) => parts.length ≤ 4 ∧ (kind = "both" → ∃ ds, parts = [.tuple ds] ∧ ds ≠ []) ∧ (kind ≠ "both" → parts = parts.filter notList ++ parts.filter isList ∧ ∀ d ∈ parts, isList d = false → noL d = true) ∧ (∀ d ∈ innerL kind parts, isList d = true ∧ rec (listOf d))
 | _ => False
def rowsOk : Nat → List PyData → Prop
 | 0, _ => False
 | n + 1, ds => ∀ d ∈ ds, rowOk (rowsOk n) d
def endB (l : List Nat) : Bool := decide (l = l.filter (fun c => !decide (c = 98)) ++ l.filter (fun c => decide (c = 98)))
theorem shapes_end : ∀ {kind sh : Str}, shapes.lookup kind = some sh → kind ≠ "both" → endB sh.cps.toList = true ∧ (116 ∉ sh.cps.toList) := by
 have key : ∀ (l : List (Str × Str)) (kind sh : Str), l.all (fun p => decide (p.1 = "both") || (endB p.2.cps.toList && decide (116 ∉ p.2.cps.toList))) = true → l.lookup kind = some sh → kind ≠ "both" → endB sh.cps.toList = true ∧ (116 ∉ sh.cps.toList) := by
   intro l
   induction l with
   | nil => intro kind sh _ h; cases h
   | cons p r ih =>
     intro kind sh ha h hk
     obtain ⟨a, b⟩ := p
     obtain ⟨h1, h2⟩ := Bool.and_eq_true_iff.mp ha
     rw [List.lookup_cons] at h
     cases q : kind == a with
     | true =>
       rw [q] at h
       obtain rfl := Option.some.inj h
       have e : kind = a := by simpa using q
       rcases Bool.or_eq_true_iff.mp h1 with h1 | h1
       · exact absurd (e.trans (of_decide_eq_true h1)) hk
       · obtain ⟨h3, h4⟩ := Bool.and_eq_true_iff.mp h1
         exact ⟨h3, of_decide_eq_true h4⟩
     | false =>
       rw [q] at h
       exact ih kind sh h2 h hk
 intro kind sh h hk
 exact key shapes kind sh (by decide +kernel) h hk
theorem pf_isList {E : Env0} {ch : Nat} {d : PyData} (h : partFits E ⟨#[ch]⟩ d = true) (n : ch ≠ 116) : isList d = decide (ch = 98) := by
 by_cases e : ch = 98
 · subst e
   rw [decide_eq_true rfl]
   exact h
 · rw [decide_eq_false e]
   have sb : ¬ (⟨#[ch]⟩ : Str) = "b" := fun z => e (by
     have z : (⟨#[ch]⟩ : Str) = ⟨#[98]⟩ := z
     simpa using z)
   have st : ¬ (⟨#[ch]⟩ : Str) = "t" := fun z => n (by
     have z : (⟨#[ch]⟩ : Str) = ⟨#[116]⟩ := z
     simpa using z)
   by_cases em : (⟨#[ch]⟩ : Str) = "m" ∨ (⟨#[ch]⟩ : Str) = "v"
   · unfold partFits at h
     rw [if_neg (by rcases em with e | e <;> (rw [e]; decide +kernel)), if_neg (by rcases em with e | e <;> (rw [e]; decide +kernel)), if_neg (by rcases em with e | e <;> (rw [e]; decide +kernel)), if_pos em] at h
     cases d with
     | tuple _ => rfl
     | _ => cases h
   · have := pf_word h ⟨em, sb, st⟩
     cases d with
     | str _ => rfl
     | _ => cases this
theorem pf_noL {E : Env0} {ch : Nat} {d : PyData} (h : partFits E ⟨#[ch]⟩ d = true) (n : ch ≠ 116) (hl : isList d = false) : noL d = true := by
 have n2 : ch ≠ 98 := fun e => by
   rw [pf_isList h n, decide_eq_true e] at hl
   cases hl
 have sb : ¬ (⟨#[ch]⟩ : Str) = "b" := fun z => n2 (by
   have z : (⟨#[ch]⟩ : Str) = ⟨#[98]⟩ := z
   simpa using z)
 have st : ¬ (⟨#[ch]⟩ : Str) = "t" := fun z => n (by
   have z : (⟨#[ch]⟩ : Str) = ⟨#[116]⟩ := z
   simpa using z)
 by_cases em : (⟨#[ch]⟩ : Str) = "m" ∨ (⟨#[ch]⟩ : Str) = "v"
 · unfold partFits at h
   rw [if_neg (by rcases em with e | e <;> (rw [e]; decide +kernel)), if_neg (by rcases em with e | e <;> (rw [e]; decide +kernel)), if_neg (by rcases em with e | e <;> (rw [e]; decide +kernel)), if_pos em] at h
   exact noL_words h
 · exact noL_word (pf_word h ⟨em, sb, st⟩)
theorem zip_end {α : Type} (f : Nat → Bool) (g : α → Bool) : ∀ (l : List Nat) (ps : List α), l.length = ps.length → (∀ (i c : Nat) (d : α), l[i]? = some c → ps[i]? = some d → g d = f c) → l = l.filter (fun c => !f c) ++ l.filter f → ps = ps.filter (fun d => !g d) ++ ps.filter g
 | [], [], _, _, _ => rfl
 | c :: l, d :: ps, hl, h, e => by
   have h0 := h 0 c d rfl rfl
   have hr : ∀ (i c' : Nat) (d' : α), l[i]? = some c' → ps[i]? = some d' → g d' = f c' := fun i c' d' h1 h2 => h (i + 1) c' d' h1 h2
   cases q : f c with
   | false =>
     have e' : l = l.filter (fun c => !f c) ++ l.filter f := by
       rw [List.filter_cons_of_pos (by rw [q]; rfl), List.filter_cons_of_neg (by rw [q]; exact Bool.false_ne_true), List.cons_append] at e
       exact (List.cons.inj e).2
     have ih := zip_end f g l ps (Nat.succ.inj hl) hr e'
     rw [List.filter_cons_of_pos (by rw [h0, q]; rfl), List.filter_cons_of_neg (by rw [h0, q]; exact Bool.false_ne_true), List.cons_append]
     exact congrArg (d :: ·) ih
   | true =>
     have all : ∀ c' ∈ l, f c' = true := by
       intro c' hc'
       cases q' : f c' with
       | true => rfl
       | false =>
         exfalso
         rw [List.filter_cons_of_neg (by rw [q]; exact Bool.false_ne_true), List.filter_cons_of_pos q] at e
         cases hn : l.filter (fun c => !f c) with
         | nil =>
           have := List.filter_eq_nil_iff.mp hn c' hc'
           rw [q'] at this
           exact this rfl
         | cons z r =>
           rw [hn, List.cons_append] at e
           have ez := (List.cons.inj e).1
           have hz : z ∈ l.filter (fun c => !f c) := by rw [hn]; exact List.mem_cons_self
           have := (List.mem_filter.mp hz).2
           rw [← ez, q] at this
           cases this
     have e' : l = l.filter (fun c => !f c) ++ l.filter f := by
       rw [List.filter_eq_self.mpr all, List.filter_eq_nil_iff.mpr fun c' hc' => by rw [all c' hc']; exact Bool.false_ne_true]
       rfl
     have ih := zip_end f g l ps (Nat.succ.inj hl) hr e'
     have gall : ∀ d' ∈ ps, g d' = true := by
       intro d' hd'
       obtain ⟨i, hi⟩ := List.getElem?_of_mem hd'
       have hi' := (List.getElem?_eq_some_iff.mp hi).1
       have hl' : l.length = ps.length := Nat.succ.inj hl
       have h1 : l[i]? = some (l[i]'(by omega)) := List.getElem?_eq_getElem _
       rw [hr i _ d' h1 hi]
       exact all _ (List.mem_of_getElem? h1)
     rw [List.filter_cons_of_neg (by rw [h0, q]; exact Bool.false_ne_true), List.filter_cons_of_pos (by rw [h0, q])]
     rw [List.filter_eq_self.mpr gall, List.filter_eq_nil_iff.mpr fun d' hd' => by rw [gall d' hd']; exact Bool.false_ne_true]
     rfl
theorem rowOk_of {rec : Bool → List PyData → List Int → Chk → Out} {R : List PyData → Prop} {E : Env0} {depth : Int} (hrec : depth < 5 → ∀ lp ds pre c c', rec lp ds pre c = .ok c' → R ds) {lp : Bool} {pre : List Int} {d : PyData} {i : Nat} {c c' : Chk} (h : chkRow rec E depth lp pre d i c = .ok c') : rowOk R d := by
 unfold chkRow at h
 split at h
 · rename_i kind parts
   split at h
   · rename_i hf
     obtain ⟨hs, ⟨hl, hF⟩, _⟩ := fits_shape hf
     have hsl := shapes_len hs
     refine ⟨by rw [← hl]; exact hsl, fun e => ?_, fun e => ?_, fun d hd => ⟨inner_lists_all hf d hd, ?_⟩⟩
     · subst e
       have hl1 : parts.length = 1 := hl.symm.trans (by decide +kernel)
       match parts, hl1, hF with
       | [d], _, hF =>
         have hf : isBranches d = true := hF 0 116 d (by decide +kernel) rfl
         cases d with
         | tuple ds =>
           refine ⟨ds, rfl, fun z => ?_⟩
           subst z
           cases hf
         | _ => cases hf
     · obtain ⟨h1, h2⟩ := shapes_end hs e
       refine And.intro (b := ∀ d ∈ parts, isList d = false → noL d = true) ?_ fun d hd hl' => ?_
       rotate_left
       · obtain ⟨i, hi⟩ := List.getElem?_of_mem hd
         have hi' := (List.getElem?_eq_some_iff.mp hi).1
         have h3 : (shapeOf kind).cps[i]? = some ((shapeOf kind).cps[i]'(by omega)) := Array.getElem?_eq_getElem _
         refine pf_noL (hF i _ d h3 hi) (fun z => h2 ?_) hl'
         rw [← z]
         exact List.mem_of_getElem? (i := i) (by rw [Array.getElem?_toList]; exact h3)
       refine zip_end (fun c => decide (c = 98)) isList (shapeOf kind).cps.toList parts (by rw [Array.length_toList]; exact hl) (fun i ch d h3 h4 => ?_) (of_decide_eq_true h1)
       refine pf_isList (hF i ch d (by rw [← Array.getElem?_toList]; exact h3) h4) fun z => h2 ?_
       rw [← z]
       exact List.mem_of_getElem? h3
     · have hdep : depth < 5 := Decidable.byContradiction fun z => by
         rw [inner_deep hf (by omega)] at hd
         cases hd
       have key : ∀ (l : List PyData) (j : Nat) (c : Chk), chkIn (rec (inside lp kind)) (pre ++ [(i : Int)]) l j c = .ok c' → ∀ d ∈ l, R (listOf d) := by
         intro l
         induction l with
         | nil => intro j c _ d hd; cases hd
         | cons x r ih =>
           intro j c h d hd
           rw [chkIn_cons] at h
           cases q : rec (inside lp kind) (listOf x) (pre ++ [(i : Int)] ++ [(j : Int)]) c with
           | error p => rw [q] at h; cases h
           | ok c1 =>
             rw [q] at h
             rcases List.mem_cons.mp hd with rfl | hd
             · exact hrec hdep _ _ _ _ _ q
             · exact ih _ _ h d hd
       exact key _ _ _ h d hd
   · cases h
 · cases h
theorem rowsOk_of (E : Env0) : ∀ (n : Nat) (lp : Bool) (ds : List PyData) (pre : List Int) (c c' : Chk), chkL E n lp ds pre c = .ok c' → 1 ≤ n → rowsOk n ds
 | 0, _, _, _, _, _, _, h => absurd h (by omega)
 | n + 1, lp, ds, pre, c, c', h, _ => by
   have key : ∀ (l : List PyData) (j : Nat) (c : Chk), chkRows (chkRow (chkL E n) E (5 - (n : Int)) lp pre) l j c = .ok c' → ∀ d ∈ l, rowOk (rowsOk n) d := by
     intro l
     induction l with
     | nil => intro j c _ d hd; cases hd
     | cons x r ih =>
       intro j c h d hd
       rw [chkRows_cons] at h
       cases q : chkRow (chkL E n) E (5 - (n : Int)) lp pre x j c with
       | error p => rw [q] at h; cases h
       | ok c1 =>
         rw [q] at h
         rcases List.mem_cons.mp hd with rfl | hd
         · exact rowOk_of (fun hdep lp ds pre c c' h => rowsOk_of E n lp ds pre c c' h (by omega)) q
         · exact ih _ _ h d hd
   exact key ds 0 c h
end Op
namespace L2
open PySem PySem.Spec PyProof.Rows
def LstAt (H : Hp) (b : Addr) : Prop := ∃ xs, H b = some (.lst xs)
open Classical in
noncomputable def cutH (S : Addr → Prop) (H : Hp) : Hp := fun b => if S b then none else H b
section
variable {S S' : Addr → Prop} {H H' : Hp} {K : PySem.W.Frag}
theorem cut_not {b : Addr} (h : ¬ S b) : cutH S H b = H b := if_neg h
theorem cut_same (s : Same H H') : Same (cutH S H) (cutH S H') := fun b o h => by
 unfold cutH at h ⊢
 split at h
 · cases h
 · rename_i n
   rw [if_neg n]
   exact s b o h
theorem cut_sub (s : ∀ b, S b → S' b) : Same (cutH S' H) (cutH S H) := fun b o h => by
 unfold cutH at h ⊢
 split at h
 · cases h
 · rename_i n
   rw [if_neg fun z => n (s b z)]
   exact h
theorem cut_all : Same (cutH S H) H := fun b o h => by
 unfold cutH at h
 split at h
 · cases h
 · exact h
theorem cut_upd {D : Addr} {o : HO} (h : S D) : cutH S (upd H D o) = cutH S H := by
 funext b
 unfold cutH
 by_cases e : S b
 · rw [if_pos e, if_pos e]
 · rw [if_neg e, if_neg e, upd_ne (fun q => e (by rw [q]; exact h))]
theorem LstAt.mono {b : Addr} (h : LstAt H b) (s : Same H H') : LstAt H' b := let ⟨xs, e⟩ := h; ⟨xs, s _ _ e⟩
theorem SqT.cut {a : Addr} {xs : List V} (hs : ∀ b, S b → LstAt H b) (h : SqT K H a xs) : SqT K (cutH S H) a xs := by
 have n : ∀ o, H a = some o → (∀ ys, o ≠ .lst ys) → ¬ S a := fun o e ne z => by
   obtain ⟨ys, q⟩ := hs a z
   rw [e] at q
   exact ne ys (Option.some.inj q)
 rcases h with (h | ⟨o, h⟩) | h
 · exact .inl (.inl (by rw [cut_not (n _ h nofun)]; exact h))
 · exact .inl (.inr ⟨o, by rw [cut_not (n _ h nofun)]; exact h⟩)
 · exact .inr h
mutual
theorem noL_cut (hs : ∀ b, S b → LstAt H b) : ∀ {v : V} {d : PyData}, Dp K H v d → Op.noL d = true → Dp K (cutH S H) v d
 | _, _, .non, _ => .non
 | _, _, .bl b, _ => .bl b
 | _, _, .int i, _ => .int i
 | _, _, .str x, _ => .str x
 | _, _, .lst h a, n => by unfold Op.noL at n; cases n
 | _, _, .tup h a, n => .tup (h.cut hs) (noLs_cut hs a (by unfold Op.noL at n; exact n))
theorem noLs_cut (hs : ∀ b, S b → LstAt H b) : ∀ {vs : List V} {ds : List PyData}, DpAll K H vs ds → Op.noLs ds = true → DpAll K (cutH S H) vs ds
 | _, _, .nil, _ => .nil
 | _, _, .cons h a, n => .cons (noL_cut hs h (by unfold Op.noLs at n; exact (Bool.and_eq_true_iff.mp n).1)) (noLs_cut hs a (by unfold Op.noLs at n; exact (Bool.and_eq_true_iff.mp n).2))
end
end
end L2
namespace Op
open PySem L2 PyProof.Rows
section
variable {P : Program} {w : World} {K : PySem.W.Frag} {mg : Str → Option Value} {base : Heap}
def spWith (K : PySem.W.Frag) : Sp := fun vs H Q _ => ∃ (S : Addr → Prop) (t l : Addr) (ws : List V) (kind : Str) (parts : List PyData), vs = [.ref t, .ref l] ∧ Dp K H (.ref t) (.tuple (.str kind :: parts)) ∧ H l = some (.lst ws) ∧ (∀ b, S b → LstAt H b) ∧ DpAll K (cutH S H) ws (innerL kind parts) ∧ parts.length ≤ 4 ∧ (innerL kind parts).length ≤ 40000 ∧
 (kind = "both" → ∃ ds, parts = [.tuple ds] ∧ ds ≠ []) ∧ (kind ≠ "both" → parts = parts.filter notList ++ parts.filter isList ∧ ∀ d ∈ parts, isList d = false → noL d = true) ∧ ∀ v H', Same H H' → Dp K (cutH S H') v (.tuple (.str kind :: parts)) → Q v H'
theorem sc_with_lists : FnScope ["row", "lists", "parts", "part"] ["row", "lists"] (defScope s_with_lists) := ⟨rfl, rfl, rfl, by decide +kernel, rfl, by decide +kernel, by decide +kernel⟩
theorem ok_with_lists {f : Addr} {fd : FuncData} (F : Fun K "with_lists" "with_lists" s_with_lists f fd) (T : Txt mg) : FnOk P w K mg base CX0 1 f fd ["row", "lists"] (spWith K) := by
 refine F.ok sc_with_lists (fun vs H Q E h => ?_) (fun cdv A outer s H vs Q E hr h => ?_)
 · obtain ⟨S, t, l, ws, kind, parts, rfl, _⟩ := h
   rfl
 · obtain ⟨S, t, l, ws, kind, parts, rfl, hd, hl, hS, hw, hpl, hil, hb, hnb, k⟩ := h
   cases hd with
   | @tup _ xs _ hq ha =>
   cases ha with
   | @cons v0 vr d0 dr h0 hr0 =>
   cases h0 with
   | str kind =>
   have hvl := hr0.len
   have hwl := hw.len
   have nS : ∀ b, H b = none → ¬ S b := fun b hb z => by
     obtain ⟨ys, q⟩ := hS b z
     rw [hb] at q
     cases q
   refine ⟨_, (pss_cons (ps_if (pt_cmpR op_eq (pe_ix ix_tup (pv 0) pe_int (fun _ _ => rfl)) pe_str (nomark _)) (pss_one (ps_ret (pe_tup (pa_cons pe_str (pa_cons (pe_callTy call_tuple_of (by rfl) T.b_tuple (by decide +kernel) (pa_cons (pv 1) pa_nil)) pa_nil))))) pss_nil)
     (pss_cons (ps_setLc (i := 2) (own := [("part", 3)]) (g := gName 3)  rfl sc_with_lists.nd rfl rfl (sw_true rfl rfl rfl (by decide +kernel)) (pi_tup (pv 0)) (blkOk_by (own := [("part", 3)]) (N := ["row", "lists", "parts", "part"]) (sc := defScope s_with_lists) (by decide +kernel)) (fun _ _ _ _ _ => (pg_name (i := 3) sc_with_lists.nd rfl (.inl rfl))) (fun _ _ _ _ _ => (pts_one (pt_not (pt_val (pe_callB (id := "isinstance") (r := rIsi K) call_isi (by rfl) T.b_isinstance (by decide +kernel) (pa_cons (pv 3) (pa_cons (pe_bltn (v := .ty "list") (by rfl) T.b_list (by decide +kernel) rfl) pa_nil))))))) (fun _ _ _ _ _ => (pv 3)))
     (pss_one (ps_ret (pe_callTy call_tuple_of (by rfl) T.b_tuple (by decide +kernel) (pa_cons (pe_op op_cat (pv 2) (pv 1)) pa_nil)))))), ?_⟩
   refine ⟨_, rfl, t, _, 0, _, rfl, rfl, hq, atI_zero _ _, rfl, _, rfl, ?_⟩
   rw [dec_strV]
   by_cases e1 : kind = "both"
   · obtain ⟨ds, rfl, _⟩ := hb e1
     refine ifT (decide_eq_true e1) ?_
     have hin : innerL kind [.tuple ds] = ds := by unfold innerL; rw [if_pos e1]
     rw [hin] at hw
     refine ⟨_, rfl, l, ws, rfl, .inl ⟨.inl (.inl hl), fun p hp => ⟨sz2 _ _, fun q hq' => ?_⟩⟩⟩
     have s1 : Same H (upd H p (.tup ws)) := Same.new hp
     have s2 : Same (upd H p (.tup ws)) (upd (upd H p (.tup ws)) q (.tup [.str "both", .ref p])) := Same.new hq'
     have nq : ¬ S q := nS q (s1.free hq')
     refine k (.ref q) _ (s1.trans s2) (.tup (.inl (.inl (by rw [cut_not nq]; exact upd_same))) ?_)
     rw [e1]
     exact .cons (.str _) (.cons (.tup (.inl (.inl (by rw [cut_not (nS p hp)]; exact s2 _ _ upd_same))) (DpAll.mono (cut_same (s1.trans s2)) hw)) .nil)
   · refine ifF (decide_eq_false e1) ⟨_, rfl, t, rfl, ⟨_, hq⟩, fun D hD => ?_⟩
     have hDl : D ≠ l := fun e => by rw [e, hl] at hD; cases hD
     have hin : innerL kind parts = parts.filter isList := by unfold innerL; rw [if_neg e1]
     refine lc_it (walk_tup (xs := .str kind :: vr)) (fun i H' => ∃ acc, H' D = some (.lst acc) ∧ acc.length ≤ i ∧ DpAll K H acc (((.str kind :: parts).take i).filter notList) ∧ Same H H') ⟨[], upd_same, Nat.le_refl _, .nil, Same.new hD⟩ (fun i H' _ p => hq.mono (let ⟨_, _, _, _, s⟩ := p; s)) ?_ ?_
     · rintro i x H1 H2 hi ⟨acc, hacc, hal, hdp, sm⟩ ⟨rfl, hx⟩
       obtain ⟨d, hd1, hd2⟩ := DpAll.get (.cons (.str kind) hr0) hx
       refine ⟨rfl, _, rfl, x, _, _, _, _, rfl, .ty _, ty_dp (hd2.mono sm), kit_list d, _, rfl, ?_⟩
       have hi' : i < 2000 := by rw [List.length_cons] at hi; omega
       have e2 : ((.str kind :: parts).take (i + 1)).filter notList = ((.str kind :: parts).take i).filter notList ++ [d].filter notList := by
         rw [TS.take_one hd1, List.filter_append]
       by_cases q : isList d = true
       · rw [q]
         have q' : ¬ notList d = true := by unfold notList; rw [q]; exact Bool.false_ne_true
         refine ifF rfl ⟨acc, hacc, by omega, ?_, sm⟩
         rw [e2, List.filter_cons_of_neg q', List.filter_nil, List.append_nil]
         exact hdp
       · rw [Bool.eq_false_iff.mpr q]
         have q' : notList d = true := by unfold notList; rw [Bool.eq_false_iff.mpr q]; rfl
         refine ifT rfl ⟨_, rfl, acc, hacc, lt_sz (by omega), acc ++ [x], upd_same, by rw [List.length_append]; show acc.length + 1 ≤ _; omega, ?_, fun b o hb => ?_⟩
         · rw [e2, List.filter_cons_of_pos q', List.filter_nil]
           exact hdp.append (.cons hd2 .nil)
         · rw [upd_ne (ne_of_none hb hD)]
           exact sm b o hb
     · rintro H1 ⟨acc, hacc, hal, hdp, sm⟩
       rw [List.take_of_length_le (by rw [List.length_cons, List.length_cons]; omega)] at hdp
       rw [List.length_cons] at hal
       refine ⟨_, rfl, _, rfl, D, l, acc, ws, rfl, rfl, hacc, sm _ _ hl, sz_lit (by omega), fun p hp => ?_⟩
       refine ⟨p, _, rfl, .inl ⟨.inl (.inl upd_same), fun q hq' => ?_⟩⟩
       have s1 : Same H1 (upd H1 p (.lst (acc ++ ws))) := Same.new hp
       have s2 : Same (upd H1 p (.lst (acc ++ ws))) (upd (upd H1 p (.lst (acc ++ ws))) q (.tup (acc ++ ws))) := Same.new hq'
       have nq : ¬ S q := nS q ((sm.trans s1).free hq')
       refine k (.ref q) _ (sm.trans (s1.trans s2)) (.tup (.inl (.inl (by rw [cut_not nq]; exact upd_same))) ?_)
       have hcat : DpAll K (cutH S H) (acc ++ ws) (.str kind :: parts) := by
         have h1 : DpAll K (cutH S H) acc ((.str kind :: parts).filter notList) := noLs_cut hS hdp (noLs_mem.mpr fun d hd => by
           obtain ⟨m1, m2⟩ := List.mem_filter.mp hd
           rcases List.mem_cons.mp m1 with rfl | m1
           · unfold noL; rfl
           · exact (hnb e1).2 d m1 (by unfold notList at m2; cases q : isList d with | false => rfl | true => rw [q] at m2; cases m2))
         have := h1.append hw
         rw [hin, List.filter_cons_of_pos (by rfl : notList (.str kind) = true), List.cons_append, ← (hnb e1).1] at this
         exact this
       exact DpAll.mono (cut_same (sm.trans (s1.trans s2))) hcat
theorem wIn_mem {d : PyData} : ∀ {l : List PyData}, d ∈ l → wts (listOf d) ≤ wIn l
 | x :: r, h => by
   show _ ≤ wts (listOf x) + wIn r
   rcases List.mem_cons.mp h with rfl | h
   · omega
   · have := wIn_mem h
     omega
theorem inner_len (kind : Str) (parts : List PyData) : (innerL kind parts).length ≤ wts parts := by
 unfold innerL
 split
 · cases parts with
   | nil => exact Nat.zero_le _
   | cons d r =>
     rw [wts_cons]
     cases d with
     | tuple ds =>
       have := wts_len ds
       rw [wt_tuple]
       show ds.length ≤ _
       omega
     | _ => exact Nat.zero_le _
 · have h1 := List.length_filter_le isList parts
   have h2 := wts_len parts
   omega
def spCRow (K : PySem.W.Frag) (n : Nat) : Sp := fun vs H Q _ => ∃ (v : V) (d : PyData), vs = [v] ∧ Dp K H v d ∧ rowOk (rowsOk n) d ∧ wt d ≤ 30000 ∧ ∀ v' H', Same H H' → Dp K (cutH (LstAt H) H') v' d → Q v' H'
def spCRows (K : PySem.W.Frag) (n : Nat) : Sp := fun vs H Q _ => ∃ (v : V) (ds : List PyData), vs = [v] ∧ Dp K H v (.list ds) ∧ rowsOk n ds ∧ wts ds ≤ 30000 ∧ ∀ p xs H', Same H H' → H p = none → H' p = some (.lst xs) → DpAll K (cutH (fun b => LstAt H b ∨ b = p) H') xs ds → Q (.ref p) H'
theorem sc_copy_rows : FnScope ["rows", "row"] ["rows"] (defScope s_copy_rows) := ⟨rfl, rfl, rfl, by decide +kernel, rfl, by decide +kernel, by decide +kernel⟩
theorem ok_copy_rows {f : Addr} {fd : FuncData} {k : Nat} {n : Nat} (F : Fun K "copy_rows" "copy_rows" s_copy_rows f fd) (T : Txt mg) (c_copy_row : Cal P w K mg base CX0 (k + 1) "copy_row" ["row"] (spCRow K n)) : FnOk P w K mg base CX0 (k + 2) f fd ["rows"] (spCRows K (n + 1)) := by
 refine F.ok sc_copy_rows (fun vs H Q E h => ?_) (fun cdv A outer s H vs Q E hr h => ?_)
 · obtain ⟨v, ds, rfl, _⟩ := h
   rfl
 · obtain ⟨v, ds, rfl, hd, hok, hwt, kk⟩ := h
   cases hd with
   | @lst r xs _ hq ha =>
   have hxl := ha.len
   have hwl := wts_len ds
   refine ⟨_, (pss_one (ps_ret (pe_lc (own := [("row", 1)]) (g := gName 1) (tt := tYes) rfl sc_copy_rows.nd (pi_list (pv 0)) (blkOk_by (own := [("row", 1)]) (N := ["rows", "row"]) (sc := defScope s_copy_rows) (by decide +kernel)) (fun _ _ _ _ _ => (pg_name (i := 1) sc_copy_rows.nd rfl (.inl rfl))) (fun _ _ _ _ _ => pts_nil) (fun _ _ _ _ _ => (pe_cal c_copy_row (hr.mono (by omega)) rfl pass0 (pa_cons (pv 1) pa_nil)))))), ?_⟩
   refine ⟨_, rfl, r, rfl, ⟨_, hq⟩, fun D hD => ?_⟩
   refine lc_it (walk_list (xs := xs)) (fun i H' => ∃ acc, H' D = some (.lst acc) ∧ acc.length ≤ i ∧ DpAll K (cutH (fun b => LstAt H b ∨ b = D) H') acc (ds.take i) ∧ Same H H') ⟨[], upd_same, Nat.le_refl _, .nil, Same.new hD⟩ (fun i H' _ p => hq.mono (let ⟨_, _, _, _, s⟩ := p; s)) ?_ ?_
   · rintro i x H0' H1 hi ⟨acc, hacc, hal, hdp, sm⟩ ⟨rfl, hx⟩
     obtain ⟨d, hd1, hd2⟩ := ha.get hx
     have hm := List.mem_of_getElem? hd1
     have hwd := wts_mem hm
     refine ⟨rfl, ?_⟩
     refine ⟨_, rfl, x, d, rfl, hd2.mono sm, hok d hm, by omega, fun v' H2 s2 hv' => ?_⟩
     have sub : ∀ b, LstAt H b ∨ b = D → LstAt H1 b := fun b hb => by
       rcases hb with hb | rfl
       · exact hb.mono sm
       · exact ⟨acc, hacc⟩
     refine ⟨acc, s2 _ _ hacc, lt_sz (by omega), acc ++ [v'], upd_same, by rw [List.length_append]; show acc.length + 1 ≤ _; omega, ?_, fun b o hb => ?_⟩
     · rw [cut_upd (.inr rfl), TS.take_one hd1]
       exact (DpAll.mono (cut_same s2) hdp).append (.cons (hv'.mono (cut_sub sub)) .nil)
     · rw [upd_ne (ne_of_none hb hD)]
       exact s2 b o (sm b o hb)
   · rintro H1 ⟨acc, hacc, _, hdp, sm⟩
     rw [List.take_of_length_le (by omega)] at hdp
     exact kk D acc H1 sm hD hacc hdp
theorem sc_copy_row : FnScope ["row", "lists", "rows"] ["row"] (defScope s_copy_row) := ⟨rfl, rfl, rfl, by decide +kernel, rfl, by decide +kernel, by decide +kernel⟩
theorem ok_copy_row {f : Addr} {fd : FuncData} {k : Nat} {n : Nat} (F : Fun K "copy_row" "copy_row" s_copy_row f fd) (T : Txt mg) (c_inner_lists : Cal P w K mg base CX0 1 "inner_lists" ["row"] (spInner K)) (c_with_lists : Cal P w K mg base CX0 1 "with_lists" ["row", "lists"] (spWith K)) (c_copy_rows : Cal P w K mg base CX0 (k + 1) "copy_rows" ["rows"] (spCRows K n)) : FnOk P w K mg base CX0 (k + 2) f fd ["row"] (spCRow K n) := by
 refine F.ok sc_copy_row (fun vs H Q E h => ?_) (fun cdv A outer s H vs Q E hr h => ?_)
 · obtain ⟨v, d, rfl, _⟩ := h
   rfl
 · obtain ⟨v, d, rfl, hd, hok, hwt, kk⟩ := h
   obtain ⟨kind, parts, rfl⟩ : ∃ kind parts, d = .tuple (.str kind :: parts) := by
     unfold rowOk at hok
     split at hok
     · exact ⟨_, _, rfl⟩
     · exact hok.elim
   obtain ⟨hpl, hb, hnb, hin⟩ := hok
   have hwi := wIn_inner kind parts
   rw [wt_tuple, wts_cons] at hwt
   obtain ⟨t, rfl⟩ : ∃ t, v = .ref t := by cases hd with | tup _ _ => exact ⟨_, rfl⟩
   refine ⟨_, (pss_cons (ps_set (i := 1) sc_copy_row.nd rfl (.inl rfl) (pe_cal c_inner_lists (hr.mono (by omega)) rfl pass0 (pa_cons (pv 0) pa_nil)))
     (pss_cons (ps_if (pt_cmpR op_eq (pe_callB call_len_seq (by rfl) T.b_len (by decide +kernel) (pa_cons (pv 1) pa_nil)) pe_int (nomark _)) (pss_one (ps_ret (pv 0))) pss_nil)
     (pss_one (ps_ret (pe_cal c_with_lists (hr.mono (by omega)) rfl pass0 (pa_cons (pv 0) (pa_cons (pe_lc (own := [("rows", 2)]) (g := gName 2) (tt := tYes) rfl sc_copy_row.nd (pi_list (pv 1)) (blkOk_by (own := [("rows", 2)]) (N := ["row", "lists", "rows"]) (sc := defScope s_copy_row) (by decide +kernel)) (fun _ _ _ _ _ => (pg_name (i := 2) sc_copy_row.nd rfl (.inl rfl))) (fun _ _ _ _ _ => pts_nil) (fun _ _ _ _ _ => (pe_cal c_copy_rows (hr.mono (by omega)) rfl pass0 (pa_cons (pv 2) pa_nil)))) pa_nil))))))), ?_⟩
   refine ⟨_, rfl, t, kind, parts, rfl, hd, by omega, fun e => ?_, fun p xs H1 s1 hp hp1 hdp => ?_⟩
   · obtain ⟨ds, e', _⟩ := hb e
     exact ⟨ds, [], e'⟩
   have hxl := hdp.len
   refine ⟨_, rfl, p, xs, rfl, .inl (.inl (.inl hp1)), rfl, _, rfl, ?_⟩
   by_cases e0 : xs.length = 0
   · rw [e0]
     refine ifT rfl ⟨_, rfl, ?_⟩
     have hi0 : innerL kind parts = [] := List.length_eq_zero_iff.mp (by omega)
     have nL : noL (.tuple (.str kind :: parts)) = true := by
       unfold noL
       refine noLs_mem.mpr fun d hd' => ?_
       rcases List.mem_cons.mp hd' with rfl | hd'
       · unfold noL; rfl
       · by_cases e : kind = "both"
         · obtain ⟨ds, rfl, hne⟩ := hb e
           unfold innerL at hi0
           rw [if_pos e] at hi0
           exact absurd hi0 hne
         · refine (hnb e).2 d hd' ?_
           unfold innerL at hi0
           rw [if_neg e] at hi0
           exact Bool.eq_false_iff.mpr (List.filter_eq_nil_iff.mp hi0 d hd')
     exact kk (.ref t) H1 s1 ((noL_cut (S := LstAt H) (fun b h => h) hd nL).mono (cut_same s1))
   · refine ifF (decide_eq_false (by intro z; injection z with z; omega)) ?_
     have hil := inner_len kind parts
     refine ⟨_, rfl, _, rfl, p, rfl, ⟨_, .inl (.inl hp1)⟩, fun D hD => ?_⟩
     refine lc_it (walk_list (xs := xs)) (fun i H' => ∃ acc, H' D = some (.lst acc) ∧ acc.length ≤ i ∧ DpAll K (cutH (fun b => LstAt H b ∨ b = D) H') acc ((innerL kind parts).take i) ∧ Same H1 H') ⟨[], upd_same, Nat.le_refl _, .nil, Same.new hD⟩ (fun i H' _ q => .inl (.inl ((let ⟨_, _, _, _, s⟩ := q; s) _ _ hp1))) ?_ ?_
     · rintro i x H0' H2 hi ⟨acc, hacc, hal, hdpa, sm⟩ ⟨rfl, hx⟩
       obtain ⟨d, hd1, hd2⟩ := hdp.get hx
       have hm := List.mem_of_getElem? hd1
       obtain ⟨hisl, hrok⟩ := hin d hm
       obtain ⟨dl, rfl⟩ : ∃ dl, d = .list dl := by
         cases d with
         | list dl => exact ⟨dl, rfl⟩
         | _ => cases hisl
       have hwl : wts dl ≤ wIn (innerL kind parts) := wIn_mem hm
       refine ⟨rfl, ?_⟩
       refine ⟨_, rfl, x, dl, rfl, hd2.mono (s1.trans sm), hrok, by omega, fun p2 xs2 H3 s3 hp2 hx2 hdp2 => ?_⟩
       have sub : ∀ b, LstAt H b ∨ b = D → LstAt H2 b ∨ b = p2 := fun b hb => by
         rcases hb with hb | rfl
         · exact .inl (hb.mono (s1.trans sm))
         · exact .inl ⟨acc, hacc⟩
       have np2 : ¬ (LstAt H p2 ∨ p2 = D) := fun z => by
         rcases z with z | rfl
         · obtain ⟨ys, q⟩ := z.mono (s1.trans sm)
           rw [hp2] at q
           cases q
         · rw [hacc] at hp2
           cases hp2
       refine ⟨acc, s3 _ _ hacc, lt_sz (by omega), acc ++ [.ref p2], upd_same, by rw [List.length_append]; show acc.length + 1 ≤ _; omega, ?_, fun b o hb => ?_⟩
       · rw [cut_upd (.inr rfl), TS.take_one hd1]
         refine (DpAll.mono (cut_same s3) hdpa).append (.cons (.lst (.inl (.inl (by rw [cut_not np2]; exact hx2))) (DpAll.mono (cut_sub sub) hdp2)) .nil)
       · rw [upd_ne (ne_of_none hb hD)]
         exact s3 b o (sm b o hb)
     · rintro H2 ⟨acc, hacc, _, hdpa, sm⟩
       rw [List.take_of_length_le (by omega)] at hdpa
       exact ⟨LstAt H, t, D, acc, kind, parts, rfl, hd.mono (s1.trans sm), hacc, fun b hb => hb.mono (s1.trans sm), DpAll.mono (cut_sub fun b hb => .inl hb) hdpa, hpl, by omega, hb, hnb, fun v' H' s' hv' => kk v' H' ((s1.trans sm).trans s') hv'⟩
theorem ok_copies {f1 f2 : Addr} {fd1 fd2 : FuncData} (F1 : Fun K "copy_rows" "copy_rows" s_copy_rows f1 fd1) (F2 : Fun K "copy_row" "copy_row" s_copy_row f2 fd2) (T : Txt mg) (g1 : mg "copy_rows" = some (.ref f1)) (g2 : mg "copy_row" = some (.ref f2)) (k1 : PySem.W.keepIn K (.ref f1) = true) (k2 : PySem.W.keepIn K (.ref f2) = true)
   (b1 : Binds K fd1 ["rows"] []) (b2 : Binds K fd2 ["row"] []) (c_inner_lists : Cal P w K mg base CX0 1 "inner_lists" ["row"] (spInner K)) (c_with_lists : Cal P w K mg base CX0 1 "with_lists" ["row", "lists"] (spWith K)) : ∀ n : Nat, Cal P w K mg base CX0 (2 * n + 1) "copy_rows" ["rows"] (spCRows K n)
 | 0 => ⟨f1, fd1, g1, k1, b1, F1.ok sc_copy_rows (fun vs H Q E h => by obtain ⟨v, ds, rfl, _⟩ := h; rfl) (fun cdv A outer s H vs Q E hr h => by obtain ⟨v, ds, _, _, hk, _⟩ := h; exact hk.elim)⟩
 | n + 1 => ⟨f1, fd1, g1, k1, b1, ok_copy_rows (k := 2 * n + 1) F1 T ⟨f2, fd2, g2, k2, b2, ok_copy_row (k := 2 * n) F2 T c_inner_lists c_with_lists (ok_copies F1 F2 T g1 g2 k1 k2 b1 b2 c_inner_lists c_with_lists n)⟩⟩
end
end Op
namespace L2
open PySem PySem.Spec PyProof.Rows
def Kcal (P : Program) (w : World) (K : PySem.W.Frag) (mg : Str → Option Value) (base : Heap) (CX : CXT) (k : Nat) (x : Str) (C : Addr) (ps : List Str) (sp : Sp) : Prop :=
 ∃ (f : Addr) (fd : FuncData), Mk K C f ∧ mg x = some (.ref C) ∧ Binds K fd ps [] ∧ FnOk P w K mg base CX k f fd ps sp
theorem pe_kcal {X : Cx} {CX : CXT} {k : Nat} {x : Str} {C : Addr} {ps : List Str} {sp : Sp} {E : XK} {p pos : Pos} {e : Expr} {es : List Expr} {t : TA} (c : Kcal X.prog X.w X.K X.mg X.base CX k x C ps sp) (hr : Room (k + 1) X.A) (hg : Gl X x) (hx : Passes CX X E) (ha : PA X (e :: es) t)
   (hdb : (x == ("__debug__" : Str)) = false := by decide) (he : starEach (e :: es) X.env = (false, eval e X.env) :: starEach es X.env := by rfl) (hpl : (backTo pos (starEach es X.env)).any (·.1) = false := by rfl) :
   PE X (.Call (.Name x p) (e :: es) [] pos) (tMake C sp [] E t) := by
 obtain ⟨f, fd, h1, h2, h3, h4⟩ := c
 exact pe_make h1 h4 hr hg h2 h3 .nil hx ha hdb he hpl
end L2
namespace Op
open PySem L2 PyProof.Rows
def progCheck (we : Bool) (asks sigs : ArgD) (ins rows : PyData) : Except (Str × List Int) Chk :=
 match okTab (areWords 4) 6 asks with
 | none => .error ("asks", [])
 | some ka => match okTab isBox 3 sigs with
   | none => .error ("signals", [])
   | some ks => if areWords 3 ins = true then checkAll ⟨ka.map (·.1), ks.map (·.1), we⟩ rows else .error ("inputs", [])
section
variable {K : PySem.W.Frag} {H H' : Hp}
theorem KvsR.has (x : Str) : ∀ {vs : List (Key × V)} {kvs : List (Str × PyData)}, KvsR K H vs kvs → (valV vs (.inr x)).isSome = decide (x ∈ kvs.map (·.1))
 | [], [], _ => rfl
 | (k, v) :: r, (y, d) :: t, ⟨h1, h2, h3⟩ => by
   rw [h1, List.map_cons]
   by_cases e : y = x
   · rw [valV_pos (by rw [e])]
     simp [e]
   · rw [valV_neg (fun q => e (Sum.inr.inj q)), KvsR.has x h3]
     simp [Ne.symm e]
theorem KvsR.known {p : Addr} {ws : List (Key × V)} {kvs kvs' : List (Str × PyData)} (h : H p = some (.dK ws)) (r : KvsR K H' ws kvs') (pm : kvs'.Perm kvs) : Known H p (kvs.map (·.1)) := ⟨ws, h, fun x => by
 rw [r.has x]
 rw [Bool.eq_iff_iff, decide_eq_true_iff, decide_eq_true_iff]
 exact (pm.map (·.1)).mem_iff⟩
end
theorem KvsR.mono {K : PySem.W.Frag} {H H' : Hp} {vs : List (Key × V)} {kvs : List (Str × PyData)} (h : KvsR K H vs kvs) (s : Kp H H') : KvsR K H' vs kvs := KvsR.kp s h
def But (x : Addr) (H H' : Hp) : Prop := ∀ b o, H b = some o → b ≠ x → H' b = some o
theorem checkAll_ok {E : Env0} {d : PyData} {c : Chk} (h : checkAll E d = .ok c) : ∃ ds, d = .list ds ∧ chkL E 5 false ds [] chk0 = .ok c ∧ sizes c = none := by
 unfold checkAll at h
 split at h
 · rename_i ds
   refine ⟨ds, rfl, ?_⟩
   split at h
   · cases h
   · rename_i c1 e1
     split at h
     · cases h
     · rename_i e2
       obtain rfl := Except.ok.inj h
       exact ⟨e1, e2⟩
 · cases h
section
variable {K : PySem.W.Frag} {H H' H'' : Hp} {x C dx : Addr} {fs : List (Str × V)}
theorem But.kp (b : But x H H') (h : H x = some (.ins C dx fs)) : Kp H H' := fun c o hc ho => b c o hc fun e => by
 rw [e, h] at hc
 cases hc
 cases ho
theorem But.trans (a : But x H H') (b : But x H' H'') : But x H H'' := fun c o h n => b c o (a c o h n) n
theorem Same.but (s : Same H H') : But x H H' := fun c o h _ => s c o h
theorem But.upd {o : HO} (b : But x H H') : But x H (upd H' x o) := fun c u h n => by rw [L2.upd_ne n]; exact b c u h n
theorem ArgV.but {v : V} {a : ArgD} (h : ArgV K H v a) (b : But x H H') (hx : H x = some (.ins C dx fs)) : ArgV K H' v a := by
 cases a with
 | none => exact h
 | other d => exact ⟨h.1.kp (b.kp hx), h.2⟩
 | dict kvs =>
   obtain ⟨p, vs, e, hp, hk, hn⟩ := h
   refine ⟨p, vs, e, b p _ hp fun z => ?_, hk.mono (b.kp hx), hn⟩
   rw [z, hx] at hp
   cases hp
end
section
variable {P : Program} {w : World} {K : PySem.W.Frag} {mg : Str → Option Value} {base : Heap} {pS CI C RC0 : Addr}
end
end Op
namespace Op
open PySem L2 PyProof.Rows
def putD {α : Type} (t : List (List Int × α)) (p : List Int) (a : α) : List (List Int × α) := if (t.any fun q => decide (q.1 = p)) = true then t.map (fun q => if q.1 = p then (q.1, a) else q) else t ++ [(p, a)]
abbrev Tb := List (List Int × PyData) × List (List Int × Int)
def addIn (rec : List PyData → List Int → Tb → Tb) (pre : List Int) : List PyData → Nat → Tb → Tb
 | [], _, s => s
 | d :: r, j, s => addIn rec pre r (j + 1) (rec (listOf d) (pre ++ [(j : Int)]) s)
def addRow (rec : List PyData → List Int → Tb → Tb) (pre : List Int) (d : PyData) (i : Nat) (s : Tb) : Tb :=
 match d with
 | .tuple (.str kind :: parts) => addIn rec (pre ++ [(i : Int)]) (innerL kind parts) 0 (putD s.1 (pre ++ [(i : Int)]) d, s.2)
 | _ => s
def addRs (row : PyData → Nat → Tb → Tb) : List PyData → Nat → Tb → Tb
 | [], _, s => s
 | d :: r, i, s => addRs row r (i + 1) (row d i s)
def addL : Nat → List PyData → List Int → Tb → Tb
 | 0, _, _, s => s
 | n + 1, ds, pre, s => addRs (addRow (addL n) pre) ds 0 (s.1, putD s.2 pre (ds.length : Int))
theorem putD_len {α : Type} (t : List (List Int × α)) (p : List Int) (a : α) : (putD t p a).length ≤ t.length + 1 := by
 unfold putD
 split
 · rw [List.length_map]; omega
 · rw [List.length_append]; exact Nat.le_refl _
def CapT (s : Tb) (m : Nat) : Prop := s.1.length ≤ m ∧ s.2.length ≤ m
theorem CapT.mono {s : Tb} {m n : Nat} (h : CapT s m) (e : m ≤ n) : CapT s n := ⟨by have := h.1; omega, by have := h.2; omega⟩
theorem wIn1 : ∀ ds : List PyData, ds.length + wIn ds ≤ wts ds
 | [] => by rw [wts_nil]; exact Nat.le_refl _
 | d :: r => by
   have := wIn1 r
   have := wts_listOf d
   rw [wts_cons, List.length_cons]
   show _ + (wts (listOf d) + wIn r) ≤ _
   omega
theorem wts_filter (f : PyData → Bool) : ∀ ds : List PyData, wts (ds.filter f) ≤ wts ds
 | [] => Nat.le_refl _
 | d :: r => by
   have := wts_filter f r
   rw [wts_cons]
   by_cases q : f d = true
   · rw [List.filter_cons_of_pos q, wts_cons]; omega
   · rw [List.filter_cons_of_neg q]; omega
theorem wIn_inner1 (kind : Str) (parts : List PyData) : (innerL kind parts).length + wIn (innerL kind parts) ≤ wts parts := by
 unfold innerL
 split
 · cases parts with
   | nil => exact Nat.zero_le _
   | cons d r =>
     rw [wts_cons]
     cases d with
     | tuple ds =>
       have := wIn1 ds
       rw [wt_tuple]
       show ds.length + wIn ds ≤ _
       omega
     | _ => exact Nat.zero_le _
 · have := wIn1 (parts.filter isList)
   have := wts_filter isList parts
   omega
def CapG (f : List PyData → List Int → Tb → Tb) : Prop := ∀ ds pre s m, CapT s m → CapT (f ds pre s) (m + 1 + wts ds)
theorem addIn_cap {f : List PyData → List Int → Tb → Tb} (hf : CapG f) {pre : List Int} : ∀ (l : List PyData) (j : Nat) (s : Tb) (m : Nat), CapT s m → CapT (addIn f pre l j s) (m + (l.length + wIn l))
 | [], j, s, m, k => k
 | d :: r, j, s, m, k => by
   have h1 := hf (listOf d) (pre ++ [(j : Int)]) s m k
   have h2 := addIn_cap hf (pre := pre) r (j + 1) _ _ h1
   refine h2.mono ?_
   show _ ≤ m + (r.length + 1 + (wts (listOf d) + wIn r))
   omega
theorem addRow_cap {f : List PyData → List Int → Tb → Tb} (hf : CapG f) {pre : List Int} {d : PyData} {i : Nat} {s : Tb} {m : Nat} (k : CapT s m) : CapT (addRow f pre d i s) (m + wt d) := by
 unfold addRow
 split
 · rename_i kind parts
   have h1 := putD_len s.1 (pre ++ [(i : Int)]) (.tuple (.str kind :: parts))
   have h2 := addIn_cap hf (pre := pre ++ [(i : Int)]) (innerL kind parts) 0 (putD s.1 (pre ++ [(i : Int)]) (.tuple (.str kind :: parts)), s.2) (m + 1) ⟨by have := k.1; show (putD _ _ _).length ≤ _; omega, by have := k.2; show s.2.length ≤ _; omega⟩
   have h3 := wIn_inner1 kind parts
   refine h2.mono ?_
   rw [wt_tuple, wts_cons]
   omega
 · exact k.mono (by omega)
theorem addRs_cap {row : PyData → Nat → Tb → Tb} (hr : ∀ d i s m, CapT s m → CapT (row d i s) (m + wt d)) : ∀ (l : List PyData) (i : Nat) (s : Tb) (m : Nat), CapT s m → CapT (addRs row l i s) (m + wts l)
 | [], i, s, m, k => k.mono (by omega)
 | d :: r, i, s, m, k => by
   have h2 := addRs_cap hr r (i + 1) _ _ (hr d i s m k)
   exact h2.mono (by rw [wts_cons]; omega)
theorem addL_cap : ∀ n : Nat, CapG (addL n)
 | 0 => fun ds pre s m k => k.mono (by omega)
 | n + 1 => fun ds pre s m k => by
   have h1 := putD_len s.2 pre (ds.length : Int)
   exact addRs_cap (fun d i s m k => addRow_cap (addL_cap n) k) ds 0 (s.1, putD s.2 pre (ds.length : Int)) (m + 1) ⟨by have := k.1; show s.1.length ≤ _; omega, by have := k.2; show (putD _ _ _).length ≤ _; omega⟩
def kI (p : List Int) : List Key := p.map Sum.inl
theorem kI_inj : ∀ {p q : List Int}, kI p = kI q → p = q
 | [], [], _ => rfl
 | [], _ :: _, h => by cases h
 | _ :: _, [], h => by cases h
 | a :: r, b :: t, h => by
   have h : (Sum.inl a : Key) :: kI r = Sum.inl b :: kI t := h
   obtain ⟨h1, h2⟩ := List.cons.inj h
   rw [Sum.inl.inj h1, kI_inj h2]
theorem kI_kV (p : List Int) : (kI p).map kV = p.map V.int := by
 unfold kI
 rw [List.map_map]
 rfl
def TabR (K : PySem.W.Frag) (H : Hp) : List (List Key × V) → List (List Int × PyData) → Prop
 | [], [] => True
 | (k, v) :: r, (p, d) :: t => k = kI p ∧ Dp K H v d ∧ TabR K H r t
 | _, _ => False
section
variable {K : PySem.W.Frag} {H H' : Hp}
theorem TabR.kp (s : Kp H H') : ∀ {kvs : List (List Key × V)} {t : List (List Int × PyData)}, TabR K H kvs t → TabR K H' kvs t
 | [], [], _ => trivial
 | (k, v) :: r, (p, d) :: t, ⟨h1, h2, h3⟩ => ⟨h1, h2.kp s, TabR.kp s h3⟩
theorem TabR.len : ∀ {kvs : List (List Key × V)} {t : List (List Int × PyData)}, TabR K H kvs t → kvs.length = t.length
 | [], [], _ => rfl
 | (k, v) :: r, (p, d) :: t, ⟨h1, h2, h3⟩ => congrArg Nat.succ (TabR.len h3)
theorem TabR.any {q : List Int} : ∀ {kvs : List (List Key × V)} {t : List (List Int × PyData)}, TabR K H kvs t → (kvs.any fun kv => decide (kv.1 = kI q)) = t.any fun x => decide (x.1 = q)
 | [], [], _ => rfl
 | (k, v) :: r, (p, d) :: t, ⟨h1, h2, h3⟩ => by
   rw [List.any_cons, List.any_cons, TabR.any h3, h1]
   congr 1
   exact decide_eq_decide.mpr ⟨fun e => kI_inj e, fun e => congrArg kI e⟩
theorem TabR.set {q : List Int} {v : V} {d : PyData} (hv : Dp K H v d) : ∀ {kvs : List (List Key × V)} {t : List (List Int × PyData)}, TabR K H kvs t → TabR K H (kvs.map fun kv => if kv.1 = kI q then (kv.1, v) else kv) (t.map fun x => if x.1 = q then (x.1, d) else x)
 | [], [], _ => trivial
 | (k, u) :: r, (p, e) :: t, ⟨h1, h2, h3⟩ => by
   rw [List.map_cons, List.map_cons]
   by_cases z : p = q
   · rw [if_pos z, if_pos (by rw [h1, z])]
     exact ⟨h1, hv, TabR.set hv h3⟩
   · rw [if_neg z, if_neg (fun y => z (kI_inj (h1.symm.trans y)))]
     exact ⟨h1, h2, TabR.set hv h3⟩
theorem TabR.snoc {q : List Int} {v : V} {d : PyData} (hv : Dp K H v d) : ∀ {kvs : List (List Key × V)} {t : List (List Int × PyData)}, TabR K H kvs t → TabR K H (kvs ++ [(kI q, v)]) (t ++ [(q, d)])
 | [], [], _ => ⟨rfl, hv, trivial⟩
 | (k, u) :: r, (p, e) :: t, ⟨h1, h2, h3⟩ => ⟨h1, h2, TabR.snoc hv h3⟩
theorem TabR.put {q : List Int} {v : V} {d : PyData} {kvs : List (List Key × V)} {t : List (List Int × PyData)} (h : TabR K H kvs t) (hv : Dp K H v d) : TabR K H (putK kvs (kI q) v) (putD t q d) := by
 unfold putK putD
 rw [h.any]
 split
 · exact h.set hv
 · exact h.snoc hv
end
def zT (t : List (List Int × Int)) : List (List Key × V) := t.map fun p => (kI p.1, .int p.2)
theorem zT_put (t : List (List Int × Int)) (q : List Int) (n : Int) : putK (zT t) (kI q) (.int n) = zT (putD t q n) := by
 unfold putK putD
 have e : ((zT t).any fun kv => decide (kv.1 = kI q)) = t.any fun x => decide (x.1 = q) := by
   unfold zT
   rw [List.any_map]
   congr 1
   funext x
   exact decide_eq_decide.mpr ⟨fun e => kI_inj e, fun e => congrArg kI e⟩
 rw [e]
 split
 · unfold zT
   rw [List.map_map, List.map_map]
   refine List.map_congr_left fun x _ => ?_
   show (if kI x.1 = kI q then (kI x.1, V.int n) else (kI x.1, .int x.2)) = (kI (if x.1 = q then (x.1, n) else x).1, V.int (if x.1 = q then (x.1, n) else x).2)
   by_cases z : x.1 = q
   · rw [if_pos z, if_pos (by rw [z])]
   · rw [if_neg z, if_neg fun y => z (kI_inj y)]
 · unfold zT
   rw [List.map_append]
   rfl
structure TbA where
 x : Addr
 C : Addr
 dx : Addr
 rt : Addr
 lz : Addr
 fs : List (Str × V)
structure TB (K : PySem.W.Frag) (H : Hp) (A : TbA) (s : Tb) : Prop where
 ob : H A.x = some (.ins A.C A.dx A.fs)
 f1 : A.fs.lookup ("row_table" : Str) = some (.ref A.rt)
 f2 : A.fs.lookup ("list_sizes" : Str) = some (.ref A.lz)
 f3 : A.fs.lookup ("add_rows" : Str) = none
 rt : ∃ kvs, H A.rt = some (.dT kvs) ∧ TabR K H kvs s.1
 lz : H A.lz = some (.dT (zT s.2))
 ne : A.rt ≠ A.lz
section
variable {K : PySem.W.Frag} {H H' : Hp} {A : TbA} {s : Tb}
theorem TB.mono (h : TB K H A s) (m : Same H H') : TB K H' A s := ⟨m _ _ h.ob, h.f1, h.f2, h.f3, let ⟨k, a, b⟩ := h.rt; ⟨k, m _ _ a, b.kp m.kp⟩, m _ _ h.lz, h.ne⟩
theorem TB.kp (h : TB K H A s) (f : Fr [A.rt, A.lz] H H') : Kp H H' := fun b o hb ho => f b o hb fun m => by
 obtain ⟨k, e, _⟩ := h.rt
 rcases List.mem_cons.mp m with z | m
 · rw [z, e] at hb; cases hb; cases ho
 · rw [List.mem_singleton.mp m, h.lz] at hb; cases hb; cases ho
end
theorem kp_upd {H : Hp} {a : Addr} {o o' : HO} (h : H a = some o) (n : seqO o = false) : Kp H (upd H a o') := fun b u hb hu => by
 have : b ≠ a := fun e => by
   rw [e, h] at hb
   cases hb
   rw [n] at hu
   cases hu
 rw [upd_ne this]
 exact hb
section
variable {K : PySem.W.Frag} {H : Hp} {A : TbA} {s : Tb}
theorem TB.nx (h : TB K H A s) : A.x ≠ A.rt ∧ A.x ≠ A.lz := by
 obtain ⟨kvs, e1, _⟩ := h.rt
 exact ⟨fun e => (by have := h.ob; rw [e, e1] at this; cases this), fun e => (by have := h.ob; rw [e, h.lz] at this; cases this)⟩
theorem TB.putZ (h : TB K H A s) (p : List Int) (n : Int) : TB K (upd H A.lz (.dT (putK (zT s.2) (kI p) (.int n)))) A (s.1, putD s.2 p n) := by
 obtain ⟨kvs, e1, e2⟩ := h.rt
 exact ⟨by rw [upd_ne h.nx.2]; exact h.ob, h.f1, h.f2, h.f3, ⟨kvs, by rw [upd_ne h.ne]; exact e1, e2.kp (kp_upd h.lz rfl)⟩, by rw [upd_same, zT_put], h.ne⟩
theorem TB.putT {kvs : List (List Key × V)} {p : List Int} {v : V} {d : PyData} (h : TB K H A s) (e1 : H A.rt = some (.dT kvs)) (e2 : TabR K H kvs s.1) (hv : Dp K H v d) : TB K (upd H A.rt (.dT (putK kvs (kI p) v))) A (putD s.1 p d, s.2) :=
 ⟨by rw [upd_ne h.nx.1]; exact h.ob, h.f1, h.f2, h.f3, ⟨_, upd_same, (e2.put hv).kp (kp_upd e1 rfl)⟩, by rw [upd_ne h.ne.symm]; exact h.lz, h.ne⟩
end
theorem rowOk_form {R : List PyData → Prop} {d : PyData} (h : rowOk R d) : ∃ kind parts, d = .tuple (.str kind :: parts) ∧ parts.length ≤ 4 ∧ (kind = "both" → ∃ ds, parts = [.tuple ds] ∧ ds ≠ []) ∧ (∀ d ∈ innerL kind parts, isList d = true ∧ R (listOf d)) := by
 unfold rowOk at h
 split at h
 · rename_i kind parts
   exact ⟨kind, parts, rfl, h.1, h.2.1, h.2.2.2⟩
 · exact h.elim
theorem cat_trk {K : PySem.W.Frag} {H : Hp} {a b : Addr} {xs ys : List V} {Q : VK} (ha : H a = some (.tup xs)) (hb : H b = some (.tup ys)) (hz : xs.length + ys.length ≤ sizeLine) (k : ∀ t H', Same H H' → H' t = some (.tup (xs ++ ys)) → Q (.ref t) H') : rCatA K (.ref a) (.ref b) H Q := by
 refine ⟨a, b, xs, ys, rfl, rfl, .inl (.inl ha), .inl (.inl hb), hz, fun e => ?_, fun _ e => ?_, fun _ _ p hp => ?_⟩
 · subst e
   exact k b H (fun _ _ h => h) hb
 · subst e
   exact k a H (fun _ _ h => h) (by rw [List.append_nil]; exact ha)
 · exact k p _ (Same.new hp) upd_same
theorem addIn_cons {rec : List PyData → List Int → Tb → Tb} {pre : List Int} {d : PyData} {r : List PyData} {j : Nat} {s : Tb} : addIn rec pre (d :: r) j s = addIn rec pre r (j + 1) (rec (listOf d) (pre ++ [(j : Int)]) s) := rfl
theorem cut_fr {S : Addr → Prop} {L : List Addr} {H H' : Hp} (f : Fr L H H') : Fr L (cutH S H) (cutH S H') := fun b o h n => by
 unfold cutH at h ⊢
 split at h
 · cases h
 · rename_i z
   rw [if_neg z]
   exact f b o h n
theorem cut_put {S : Addr → Prop} {H : Hp} {a : Addr} {o : HO} (n : ¬ S a) : cutH S (upd H a o) = upd (cutH S H) a o := by
 funext b
 unfold cutH
 by_cases e : b = a
 · subst e
   rw [if_neg n, upd_same, upd_same]
 · rw [upd_ne e, upd_ne e]
theorem cut_has {S : Addr → Prop} {H : Hp} {a : Addr} {o : HO} (h : cutH S H a = some o) : ¬ S a := fun z => by
 unfold cutH at h
 rw [if_pos z] at h
 cases h
theorem cut_at {S : Addr → Prop} {H : Hp} {a : Addr} {o : HO} (h : cutH S H a = some o) : H a = some o := cut_all _ _ h
structure PgC (K : PySem.W.Frag) (C : Addr) : Prop where
 cls : Cls K C
 n1 : NoAttr K C "ask_table"
 n2 : NoAttr K C "signal_table"
 n3 : NoAttr K C "input_words"
 n4 : NoAttr K C "row_list"
 n5 : NoAttr K C "label_names"
 n6 : NoAttr K C "slot_names"
 n7 : NoAttr K C "gate_names"
 n8 : NoAttr K C "row_table"
 n9 : NoAttr K C "list_sizes"
section
variable {P : Program} {w : World} {K : PySem.W.Frag} {mg : Str → Option Value} {base : Heap} {C : Addr}
def spAdd (K : PySem.W.Frag) (C : Addr) (n : Nat) : Sp := fun vs H Q _ => ∃ (S : Addr → Prop) (A : TbA) (s : Tb) (rws pr : Addr) (ds : List PyData) (pre : List Int) (m : Nat), vs = [.ref A.x, .ref rws, .ref pr] ∧ A.C = C ∧ TB K (cutH S H) A s ∧ Dp K (cutH S H) (.ref rws) (.list ds) ∧ rowsOk n ds ∧ H pr = some (.tup (pre.map V.int)) ∧ pre.length + 2 * n ≤ 100 ∧ CapT s m ∧ m + 1 + wts ds ≤ 90000 ∧
 ∀ H', Fr [A.rt, A.lz] H H' → TB K (cutH S H') A (addL n ds pre s) → Q .non H'
theorem sc_Program_add_rows : FnScope ["self", "rows", "prefix", "index", "row", "number", "inner"] ["self", "rows", "prefix"] (defScope s_Program_add_rows) := ⟨rfl, rfl, rfl, by decide +kernel, rfl, by decide +kernel, by decide +kernel⟩
theorem ok_add_rows {f : Addr} {fd : FuncData} (F : Fun K "add_rows" "Program.add_rows" s_Program_add_rows f fd) (T : Txt mg) (pc : PgC K C) (hm : Meth K C "add_rows" f) (hb : Binds K fd ["self", "rows", "prefix"] []) (c_inner_lists : Cal P w K mg base CX0 1 "inner_lists" ["row"] (spInnerG K)) :
   ∀ n : Nat, FnOk P w K mg base CX0 (1 + n + 1) f fd ["self", "rows", "prefix"] (spAdd K C n)
 | 0 => F.ok sc_Program_add_rows (fun vs H Q E h => by obtain ⟨S, A, s, rws, pr, ds, pre, m, rfl, _⟩ := h; rfl) (fun cdv A outer s H vs Q E hr h => by obtain ⟨S, A, s, rws, pr, ds, pre, m, _, _, _, _, hk, _⟩ := h; exact hk.elim)
 | n + 1 => by
   have m_add_rows : Mcal P w K mg base CX0 (1 + n + 1) C "add_rows" ["self", "rows", "prefix"] (spAdd K C n) := ⟨f, fd, hm, hb, ok_add_rows F T pc hm hb c_inner_lists n⟩
   refine F.ok sc_Program_add_rows (fun vs H Q E h => ?_) (fun cdv A outer s H vs Q E hr h => ?_)
   · obtain ⟨S, A, s, rws, pr, ds, pre, m, rfl, _⟩ := h
     rfl
   · obtain ⟨S, R, s0, rws, pr, ds, pre, m, rfl, hC, Oc, hd, hok, hpr, hpl, hcap, hw, k⟩ := h
     have hu := hu_of hr
     have c_Program := pc.cls
     subst hC
     have O := Oc.mono cut_all
     have nlz := cut_has Oc.lz
     have nrt : ¬ S R.rt := let ⟨_, e, _⟩ := Oc.rt; cut_has e
     refine ⟨_, (pss_cons (ps_dput hu (pe_fld (pv 0) rfl) (pv 2) (pe_callB call_len_seq (by rfl) T.b_len (by decide +kernel) (pa_cons (pv 1) pa_nil)) rfl)
     (pss_one (ps_for PassesOwn.never rfl (pi_enum (by rfl) T.b_enumerate (pa_cons (pv 1) pa_nil)) (pg_tup rfl (pgs_cons (pg_name (i := 3) sc_Program_add_rows.nd rfl (.inl rfl)) (pgs_cons (pg_name (i := 4) sc_Program_add_rows.nd rfl (.inl rfl)) pgs_nil))) (pss_cons (ps_dput hu (pe_fld (pv 0) rfl) (pe_op op_catA (pv 2) (pe_tup (pa_cons (pv 3) pa_nil))) (pv 4) rfl)
     (pss_one (ps_for PassesOwn.never rfl (pi_enum (by rfl) T.b_enumerate (pa_cons (pe_cal c_inner_lists (hr.mono (by omega)) rfl pass0 (pa_cons (pv 4) pa_nil)) pa_nil)) (pg_tup rfl (pgs_cons (pg_name (i := 5) sc_Program_add_rows.nd rfl (.inl rfl)) (pgs_cons (pg_name (i := 6) sc_Program_add_rows.nd rfl (.inl rfl)) pgs_nil))) (pss_one (ps_expr (pe_mcal (pv 0) c_Program m_add_rows (hr.mono (by omega)) pass0 (pa_cons (pv 6) (pa_cons (pe_op op_catA (pv 2) (pe_tup (pa_cons (pv 3) (pa_cons (pv 5) pa_nil)))) pa_nil))))))))))), ?_⟩
     cases hd with
     | @lst _ xs _ hq ha =>
     have hxl := ha.len
     have hcz : (zT s0.2).length ≤ m := by unfold zT; rw [List.length_map]; exact hcap.2
     refine ⟨_, rfl, rws, xs, rfl, .inl (hq.mono cut_all), _, rfl, _, _, _, _, _, rfl, O.ob, pc.cls, pc.n9, O.f2, _, rfl, R.lz, _, rfl, DPut.t (k := kI pre) O.lz (by rw [kI_kV]; exact hpr) (lt_sz (by omega)), ?_⟩
     have O1 := Oc.putZ pre (xs.length : Nat)
     rw [← cut_put nlz] at O1
     have fr1 : Fr [R.rt, R.lz] H (upd H R.lz (.dT (putK (zT s0.2) (kI pre) (.int (xs.length : Nat))))) := Fr.refl.upd (by simp)
     have cap1 : CapT (s0.1, putD s0.2 pre ((xs.length : Nat) : Int)) (m + 1) := ⟨by have := hcap.1; show s0.1.length ≤ _; omega, by have := putD_len s0.2 pre ((xs.length : Nat) : Int); have := hcap.2; show (putD _ _ _).length ≤ _; omega⟩
     revert O1 fr1
     generalize upd H R.lz _ = H1
     intro O1 fr1
     have e0 : addL (n + 1) ds pre s0 = addRs (addRow (addL n) pre) ds 0 (s0.1, putD s0.2 pre ((xs.length : Nat) : Int)) := by rw [hxl]; rfl
     refine ⟨_, rfl, rws, xs, rfl, (hq.mono cut_all).kp (O.kp fr1), ?_⟩
     refine for_it walk_enum (fun i σ H' => (∃ y3 y4 y5 y6 : Option V, σ = [some (.ref R.x), some (.ref rws), some (.ref pr), y3, y4, y5, y6]) ∧ ∃ si mi, TB K (cutH S H') R si ∧ Fr [R.rt, R.lz] H H' ∧ CapT si mi ∧ mi + wts (ds.drop i) ≤ 90000 ∧ addL (n + 1) ds pre s0 = addRs (addRow (addL n) pre) (ds.drop i) i si) ⟨⟨_, _, _, _, rfl⟩, _, m + 1, O1, fr1, cap1, by rw [List.drop_zero]; omega, e0⟩ (fun i σ H' _ p => by
       obtain ⟨_, si, mi, O2, fr, _⟩ := p
       exact (hq.mono cut_all).kp (O.kp fr)) ?_ ?_
     · rintro i v σ H2 H3 hi ⟨⟨y3, y4, y5, y6, rfl⟩, si, mi, O2, fr2, cap2, hw2, hres⟩ ⟨T0, x0, y, rfl, hT0, rfl, hx0, hy⟩
       obtain rfl : x0 = .int (i : Nat) := (Option.some.inj hx0).symm
       obtain ⟨d, hd1, hdy⟩ := ha.get hy
       have hdrop : ds.drop i = d :: ds.drop (i + 1) := by
         obtain ⟨h1, h2⟩ := List.getElem?_eq_some_iff.mp hd1
         rw [List.drop_eq_getElem_cons h1, h2]
       rw [hdrop] at hw2 hres
       rw [wts_cons] at hw2
       refine ⟨T0, _, rfl, .inl (.inl upd_same), rfl, _, _, rfl, _, _, rfl, rfl, ?_⟩
       have sm3 : Same H2 (upd H2 T0 (.tup [.int (i : Nat), y])) := Same.new hT0
       have O3 := O2.mono (cut_same (S := S) sm3)
       have fr3 : Fr [R.rt, R.lz] H (upd H2 T0 (.tup [.int (i : Nat), y])) := fr2.trans sm3.fr
       revert O3 fr3
       generalize upd H2 T0 (.tup [.int (i : Nat), y]) = H3
       intro O3 fr3
       obtain ⟨kind, parts, rfl, hp4, hboth, hinn⟩ := rowOk_form (hok d (List.mem_of_getElem? hd1))
       have hpr3 : H3 pr = some (.tup (pre.map V.int)) := O.kp fr3 _ _ hpr rfl
       obtain ⟨kvs, e1, e2⟩ := O3.rt
       have hkl := e2.len
       have hc1 := cap2.1
       refine ⟨_, rfl, _, rfl, _, _, _, _, _, rfl, cut_at O3.ob, pc.cls, pc.n8, O3.f1, _, rfl, _, rfl, sz1 _, fun p hp => cat_trk (Same.new hp _ _ hpr3) upd_same (sz_lit (by rw [List.length_map]; show _ + 1 ≤ _; omega)) fun t H4 s4 ht => ⟨R.rt, _, rfl, DPut.t (kvs := kvs) (k := kI (pre ++ [(i : Int)])) (s4 _ _ (Same.new hp _ _ (cut_at e1))) (by rw [kI_kV, ← map_snoc]; exact ht) (lt_sz (by omega)), ?_⟩⟩
       have s34 := (Same.new (o := .tup [.int (i : Nat)]) hp).trans s4
       have c34 := cut_same (S := S) s34
       have O4 := (O3.mono c34).putT (p := pre ++ [(i : Int)]) (c34 _ _ e1) (e2.kp c34.kp) ((hdy.kp (Oc.kp (cut_fr fr3))).mono c34)
       rw [← cut_put nrt] at O4
       have fr4 : Fr [R.rt, R.lz] H (upd H4 R.rt (.dT (putK kvs (kI (pre ++ [(i : Int)])) y))) := (fr3.trans s34.fr).upd (by simp)
       have cap4 : CapT (putD si.1 (pre ++ [(i : Int)]) (.tuple (.str kind :: parts)), si.2) (mi + 1) := ⟨by have := putD_len si.1 (pre ++ [(i : Int)]) (.tuple (.str kind :: parts)); show (putD _ _ _).length ≤ _; omega, by have := cap2.2; show si.2.length ≤ _; omega⟩
       revert O4 fr4
       generalize upd H4 R.rt _ = H5
       intro O4 fr4
       have hd5 := hdy.kp (Oc.kp (cut_fr fr4))
       obtain ⟨ty, rfl⟩ : ∃ ty, y = .ref ty := by
         cases hdy with
         | tup _ _ => exact ⟨_, rfl⟩
       refine ⟨_, rfl, _, ty, kind, parts, rfl, cut_all, hd5, by omega, fun e => ?_, fun p' xs' H6 s6 _ hp6 hdp6 => ?_⟩
       · obtain ⟨ds', e', _⟩ := hboth e
         exact ⟨ds', [], e'⟩
       refine ⟨p', xs', rfl, .inl (.inl hp6), ?_⟩
       have O6 := O4.mono (cut_same (S := S) s6)
       have fr6 : Fr [R.rt, R.lz] H H6 := fr4.trans s6.fr
       have hlen6 := hdp6.len
       have hwi := wIn_inner1 kind parts
       have hres' : addL (n + 1) ds pre s0 = addRs (addRow (addL n) pre) (ds.drop (i + 1)) (i + 1) (addIn (addL n) (pre ++ [(i : Int)]) (innerL kind parts) 0 (putD si.1 (pre ++ [(i : Int)]) (.tuple (.str kind :: parts)), si.2)) := hres
       rw [wt_tuple, wts_cons] at hw2
       refine for_it walk_enum (fun j σ H' => (∃ y5' y6' : Option V, σ = [some (.ref R.x), some (.ref rws), some (.ref pr), some (.int (i : Nat)), some (.ref ty), y5', y6']) ∧ ∃ sj mj, TB K (cutH S H') R sj ∧ Fr [R.rt, R.lz] H6 H' ∧ CapT sj mj ∧ mj + (((innerL kind parts).drop j).length + wIn ((innerL kind parts).drop j)) + wts (ds.drop (i + 1)) ≤ 90000 ∧ addL (n + 1) ds pre s0 = addRs (addRow (addL n) pre) (ds.drop (i + 1)) (i + 1) (addIn (addL n) (pre ++ [(i : Int)]) ((innerL kind parts).drop j) j sj)) ⟨⟨_, _, rfl⟩, _, mi + 1, O6, Fr.refl, cap4, by rw [List.drop_zero]; omega, hres'⟩ (fun j σ H' _ q => by
         obtain ⟨_, sj, mj, O7, fr7, _⟩ := q
         exact SqL.kp (.inl (.inl hp6)) ((O6.mono cut_all).kp fr7)) ?_ ?_
       · rintro j v σ H7 H8 hj ⟨⟨y5', y6', rfl⟩, sj, mj, O7, fr7, cap7, hw7, hres7⟩ ⟨T1, x1, y1, rfl, hT1, rfl, hx1, hy1⟩
         obtain rfl : x1 = .int (j : Nat) := (Option.some.inj hx1).symm
         obtain ⟨d1, hd1', hdy1⟩ := hdp6.get hy1
         have hdrop1 : (innerL kind parts).drop j = d1 :: (innerL kind parts).drop (j + 1) := by
           obtain ⟨h1, h2⟩ := List.getElem?_eq_some_iff.mp hd1'
           rw [List.drop_eq_getElem_cons h1, h2]
         rw [hdrop1] at hw7 hres7
         have hw7 : mj + (((innerL kind parts).drop (j + 1)).length + 1 + (wts (listOf d1) + wIn ((innerL kind parts).drop (j + 1)))) + wts (ds.drop (i + 1)) ≤ 90000 := hw7
         obtain ⟨hl1, hr1⟩ := hinn d1 (List.mem_of_getElem? hd1')
         obtain ⟨dl, rfl⟩ : ∃ dl, d1 = .list dl := by
           cases d1 with
           | list dl => exact ⟨dl, rfl⟩
           | _ => cases hl1
         refine ⟨T1, _, rfl, .inl (.inl upd_same), rfl, _, _, rfl, _, _, rfl, rfl, ?_⟩
         have sm8 : Same H7 (upd H7 T1 (.tup [.int (j : Nat), y1])) := Same.new hT1
         have O8 := O7.mono (cut_same (S := S) sm8)
         have fr8 : Fr [R.rt, R.lz] H6 (upd H7 T1 (.tup [.int (j : Nat), y1])) := fr7.trans sm8.fr
         revert O8 fr8
         generalize upd H7 T1 (.tup [.int (j : Nat), y1]) = H8
         intro O8 fr8
         have frA : Fr [R.rt, R.lz] H H8 := fr6.trans fr8
         have hdl : Dp K (cutH S H8) y1 (.list dl) := (hdy1.mono (cut_same s6)).kp (O6.kp (cut_fr fr8))
         have hp8 : H8 pr = some (.tup (pre.map V.int)) := O.kp frA _ _ hpr rfl
         obtain ⟨q1, rfl⟩ : ∃ q1, y1 = .ref q1 := by
           cases hdl with
           | lst _ _ => exact ⟨_, rfl⟩
         refine ⟨_, rfl, _, _, _, rfl, cut_at O8.ob, O8.f3, _, rfl, _, rfl, _, rfl, _, rfl, sz2 _ _, fun p9 hp9 => cat_trk (Same.new hp9 _ _ hp8) upd_same (sz_lit (by rw [List.length_map]; show _ + 2 ≤ _; omega)) fun t9 H9 s9 ht9 => ?_⟩
         have s89 : Same H8 H9 := (Same.new hp9).trans s9
         rw [map_snoc2] at ht9
         refine ⟨S, R, sj, q1, t9, dl, pre ++ [(i : Int)] ++ [(j : Int)], mj, rfl, rfl, O8.mono (cut_same s89), hdl.mono (cut_same s89), hr1, ht9, ?_, cap7, ?_, fun H' fr' O' => ?_⟩
         · rw [List.length_append, List.length_append]
           show pre.length + 1 + 1 + 2 * n ≤ 100
           omega
         · have : wts (listOf (.list dl)) = wts dl := rfl
           omega
         · refine ⟨⟨_, _, rfl⟩, _, mj + 1 + wts dl, O', fr8.trans (s89.fr.trans fr'), addL_cap n _ _ _ _ cap7, ?_, ?_⟩
           · have : wts (listOf (.list dl)) = wts dl := rfl
             omega
           · rw [hres7, addIn_cons]
             rfl
       · rintro σ H7 ⟨⟨y5', y6', rfl⟩, sj, mj, O7, fr7, cap7, hw7, hres7⟩
         rw [List.drop_of_length_le (l := innerL kind parts) (by omega)] at hres7
         exact ⟨⟨_, _, _, _, rfl⟩, sj, mj, O7, fr6.trans fr7, cap7, by omega, hres7⟩
     · rintro σ H' ⟨_, si, mi, O2, fr, _, _, e⟩
       rw [List.drop_of_length_le (by omega)] at e
       exact k H' fr (e ▸ O2)
end
end Op
namespace L2
theorem cut_kpS {S : PySem.Addr → Prop} {H H' : Hp} (s : Kp H H') : Kp (cutH S H) (cutH S H') := fun b o h ho => by
 unfold cutH at h ⊢
 split at h
 · cases h
 · rename_i n
   rw [if_neg n]
   exact s b o h ho
end L2
namespace Op
open PySem L2 PyProof.Rows
theorem at_new {H : Hp} {a : Addr} {o : HO} (_ : H a = none) : upd H a o a = some o := upd_same
theorem sizes_small {c : Chk} (h : sizes c = none) : c.labels.length < 64 ∧ c.slots.length < 64 ∧ c.gates.length < 64 := by
 unfold sizes at h
 split at h
 · cases h
 · split at h
   · cases h
   · split at h
     · cases h
     · split at h
       · cases h
       · omega
theorem dkT_keys (xs : List Str) : (dkT xs).map (·.1) = xs.map Sum.inr := by
 unfold dkT
 rw [List.map_map]
 rfl
theorem okTab_mem {ok : PyData → Bool} {most : Nat} {a : ArgD} {kvs : List (Str × PyData)} (h : okTab ok most a = some kvs) : ∀ q ∈ kvs, ok q.2 = true := by
 cases a with
 | none => 
   obtain rfl := Option.some.inj h
   exact fun q hq => (List.not_mem_nil hq).elim
 | other d => cases h
 | dict kv =>
   have h : (if kv.length ≤ most ∧ (kv.all fun p => isWordS p.1 && ok p.2) = true then some kv else none) = some kvs := h
   split at h
   · rename_i z
     obtain rfl := Option.some.inj h
     exact fun q hq => (Bool.and_eq_true_iff.mp (List.all_eq_true.mp z.2 q hq)).2
   · cases h
theorem noL_box {d : PyData} (h : isBox d = true) : noL d = true := by
 unfold isBox at h
 split at h
 · rename_i n d
   have := noL_words (Bool.and_eq_true_iff.mp h).2
   unfold noL
   refine noLs_mem.mpr fun z hz => ?_
   rcases List.mem_cons.mp hz with rfl | hz
   · unfold noL; rfl
   · rw [List.mem_singleton.mp hz]; exact this
 · cases h
theorem KvsR.cutN {K : PySem.W.Frag} {H : Hp} {S : Addr → Prop} (hs : ∀ b, S b → LstAt H b) : ∀ {vs : List (Key × V)} {kvs : List (Str × PyData)}, KvsR K H vs kvs → (∀ q ∈ kvs, noL q.2 = true) → KvsR K (cutH S H) vs kvs
 | [], [], _, _ => trivial
 | (k, v) :: r, (x, d) :: t, ⟨h1, h2, h3⟩, hn => ⟨h1, noL_cut hs h2 (hn _ List.mem_cons_self), KvsR.cutN hs h3 fun q hq => hn q (List.mem_cons_of_mem _ hq)⟩
theorem RwV.but {K : PySem.W.Frag} {H H' : Hp} {x C dx : Addr} {fs : List (Str × V)} {v : V} {d : PyData} (h : RwV K H v d) (b : But x H H') (hx : H x = some (.ins C dx fs)) : RwV K H' v d := by
 rcases h with h | ⟨h, p, e, hp⟩
 · exact .inl (h.kp (b.kp hx))
 · exact .inr ⟨h, p, e, b p _ hp fun z => by rw [z, hx] at hp; cases hp⟩
structure Pg where
 asks : List (Str × PyData)
 sigs : List (Str × PyData)
 ins : PyData
 rows : List PyData
 labels : List Str
 slots : List Str
 gates : List Str
structure PgA where
 x : Addr
 C : Addr
 dx : Addr
 pa : Addr
 ps : Addr
 pr : Addr
 l1 : Addr
 l2 : Addr
 l3 : Addr
 rt : Addr
 lz : Addr
 iv : V
def pgF (A : PgA) : List (Str × V) := [("ask_table", .ref A.pa), ("signal_table", .ref A.ps), ("input_words", A.iv), ("row_list", .ref A.pr), ("label_names", .ref A.l1), ("slot_names", .ref A.l2), ("gate_names", .ref A.l3), ("row_table", .ref A.rt), ("list_sizes", .ref A.lz)]
structure PgO (K : PySem.W.Frag) (H : Hp) (A : PgA) (g : Pg) : Prop where
 ob : H A.x = some (.ins A.C A.dx (pgF A))
 da : ∃ ws, H A.pa = some (.dK ws) ∧ KvsR K H ws g.asks
 ds : ∃ ws, H A.ps = some (.dK ws) ∧ KvsR K H ws g.sigs
 di : Dp K H A.iv g.ins
 dr : Dp K H (.ref A.pr) (.list g.rows)
 n1 : H A.l1 = some (.lst (g.labels.map V.str))
 n2 : H A.l2 = some (.lst (g.slots.map V.str))
 n3 : H A.l3 = some (.lst (g.gates.map V.str))
 tb : TB K H ⟨A.x, A.C, A.dx, A.rt, A.lz, pgF A⟩ (addL 5 g.rows [] ([], []))
theorem PgO.mono {K : PySem.W.Frag} {H H' : Hp} {A : PgA} {g : Pg} (h : PgO K H A g) (s : Same H H') : PgO K H' A g :=
 ⟨s _ _ h.ob, let ⟨w, a, b⟩ := h.da; ⟨w, s _ _ a, b.mono s.kp⟩, let ⟨w, a, b⟩ := h.ds; ⟨w, s _ _ a, b.mono s.kp⟩, h.di.mono s, h.dr.mono s, s _ _ h.n1, s _ _ h.n2, s _ _ h.n3, h.tb.mono s⟩
section
variable {P : Program} {w : World} {K : PySem.W.Frag} {mg : Str → Option Value} {base : Heap} {pS CI C RC0 : Addr}
def spProg (K : PySem.W.Frag) (C CI : Addr) : Sp := fun vs H Q X => ∃ (x dx : Addr) (rv av sv iv : V) (asks sigs : ArgD) (ins rows : PyData), vs = [.ref x, rv, av, sv, iv] ∧ H x = some (.ins C dx []) ∧ ArgV K H av asks ∧ ArgV K H sv sigs ∧ argSmall asks ∧ argSmall sigs ∧ Dp K H iv ins ∧ RwV K H rv rows ∧ small ins = true ∧ wt rows ≤ 30000 ∧
 (∀ ka ks ds c, okTab (areWords 4) 6 asks = some ka → okTab isBox 3 sigs = some ks → areWords 3 ins = true → rows = .list ds → checkAll ⟨ka.map (·.1), ks.map (·.1), false⟩ (.list ds) = .ok c → ∀ H' A kva kvs ls ss gs, But x H H' → A.x = x → A.C = C → kva.Perm ka → sortedS (kva.map (·.1)) = true → kvs.Perm ks → sortedS (kvs.map (·.1)) = true → ls.Perm c.labels → sortedS ls = true → ss.Perm c.slots → sortedS ss = true → gs.Perm c.gates → sortedS gs = true → H A.pa = none → H A.ps = none → PgO K (cutH (LstAt H) H') A ⟨kva, kvs, ins, ds, ls, ss, gs⟩ → Q .non H') ∧
 (∀ part path, progCheck false asks sigs ins rows = .error (part, path) → ∀ H' d, Fr (x :: (argF asks av ++ argF sigs sv)) H H' → XProg K H' d part path → X (.ref CI) (some d) H')
theorem sc_Program___init__ : FnScope ["self", "rows", "asks", "signals", "inputs", "found"] ["self", "rows", "asks", "signals", "inputs"] (defScope s_Program___init__) := ⟨rfl, rfl, rfl, by decide +kernel, rfl, by decide +kernel, by decide +kernel⟩
theorem ok_prog {f : Addr} {fd : FuncData} (F : Fun K "__init__" "Program.__init__" s_Program___init__ f fd) (T : TxtC P w K mg pS CI) (pc : PgC K C) (rc : RcC K RC0)
   (c_checked_asks : Cal P w K mg base (L2.CX P w) 3 "checked_asks" ["value"] (spTab K CI "asks" (areWords 4) 6)) (c_checked_signals : Cal P w K mg base (L2.CX P w) 4 "checked_signals" ["value"] (spTab K CI "signals" isBox 3)) (c_checked_inputs : Cal P w K mg base (L2.CX P w) 3 "checked_inputs" ["value"] (spInputs K CI))
   (k_RowCheck : Kcal P w K mg base CX0 1 "RowCheck" RC0 ["self", "asks", "signals", "with_edits"] (spRcInit K RC0)) (m_check : Mcal P w K mg base (L2.CX P w) 12 RC0 "check" ["self", "rows"] (spCheck K RC0 CI)) (c_copy_rows : Cal P w K mg base CX0 11 "copy_rows" ["rows"] (spCRows K 5)) (m_add_rows : Mcal P w K mg base CX0 7 C "add_rows" ["self", "rows", "prefix"] (spAdd K C 5)) :
   FnOk P w K mg base (L2.CX P w) 13 f fd ["self", "rows", "asks", "signals", "inputs"] (spProg K C CI) := by
 refine F.okX sc_Program___init__ (fun vs H Q E h => ?_) (fun cdv A outer s H vs Q E hr h => ?_)
 · obtain ⟨x, dx, rv, av, sv, iv, asks, sigs, ins, rows, rfl, _⟩ := h
   rfl
 · obtain ⟨x, dx, rv, av, sv, iv, asks, sigs, ins, rows, rfl, hx, hav, hsv, hsa, hss, hiv, hrv, hsi, hwr, k1, k2⟩ := h
   have c_RowCheck := rc.cls
   have c_Program := pc.cls
   refine ⟨_, (pss_cons (ps_fld (pv 0) (pe_cal c_checked_asks (hr.mono (by omega)) rfl (passes_call (takes_of rfl rfl rfl rfl) (fun _ _ _ _ h => h)) (pa_cons (pv 2) pa_nil)) rfl)
     (pss_cons (ps_fld (pv 0) (pe_cal c_checked_signals (hr.mono (by omega)) rfl (passes_call (takes_of rfl rfl rfl rfl) (fun _ _ _ _ h => h)) (pa_cons (pv 3) pa_nil)) rfl)
     (pss_cons (ps_fld (pv 0) (pe_cal c_checked_inputs (hr.mono (by omega)) rfl (passes_call (takes_of rfl rfl rfl rfl) (fun _ _ _ _ h => h)) (pa_cons (pv 4) pa_nil)) rfl)
     (pss_cons (ps_set (i := 5) sc_Program___init__.nd rfl (.inl rfl) (pe_kcal k_RowCheck (hr.mono (by omega)) rfl pass0 (pa_cons (pe_fld (pv 0) rfl) (pa_cons (pe_fld (pv 0) rfl) (pa_cons pe_bl pa_nil)))))
     (pss_cons (ps_expr (pe_mcal (pv 5) c_RowCheck m_check (hr.mono (by omega)) (passes_call (takes_of rfl rfl rfl rfl) (fun _ _ _ _ h => h)) (pa_cons (pv 1) pa_nil)))
     (pss_cons (ps_fld (pv 0) (pe_cal c_copy_rows (hr.mono (by omega)) rfl pass0 (pa_cons (pv 1) pa_nil)) rfl)
     (pss_cons (ps_fld (pv 0) (pe_callB (call_sortedKV rfl) (by rfl) T.b_sorted (by decide +kernel) (pa_cons (pe_bm0 PySem.F.plainAttrs_dict PySem.F.slot_dict_keys PySem.F.type_dict_keys mt_keysV (pe_fld (pv 5) rfl)) pa_nil)) rfl)
     (pss_cons (ps_fld (pv 0) (pe_callB (call_sortedKV rfl) (by rfl) T.b_sorted (by decide +kernel) (pa_cons (pe_bm0 PySem.F.plainAttrs_dict PySem.F.slot_dict_keys PySem.F.type_dict_keys mt_keysV (pe_fld (pv 5) rfl)) pa_nil)) rfl)
     (pss_cons (ps_fld (pv 0) (pe_callB (call_sortedKV rfl) (by rfl) T.b_sorted (by decide +kernel) (pa_cons (pe_bm0 PySem.F.plainAttrs_dict PySem.F.slot_dict_keys PySem.F.type_dict_keys mt_keysV (pe_fld (pv 5) rfl)) pa_nil)) rfl)
     (pss_cons (ps_fld (pv 0) pe_dnewT rfl)
     (pss_cons (ps_fld (pv 0) pe_dnewT rfl)
     (pss_one (ps_expr (pe_mcal (pv 0) c_Program m_add_rows (hr.mono (by omega)) pass0 (pa_cons (pe_fld (pv 0) rfl) (pa_cons (pe_tup pa_nil) pa_nil)))))))))))))))), ?_⟩
   unfold progCheck at k2
   refine ⟨_, rfl, av, asks, rfl, hav, hsa, fun ka hka pa H1 wsa kva s1 hpa hpa1 pma srta hra => ?_, fun hn H1 d f1 hxp => ?_⟩
   · rw [hka] at k2
     have nxa : pa ≠ x := fun e => by rw [e, hx] at hpa; cases hpa
     refine ⟨_, rfl, x, C, dx, _, rfl, s1 _ _ hx, pc.cls, pc.n1, (by show 0 < 1000; decide), ?_⟩
     have b2 : But x H (upd H1 x (.ins C dx (putF "ask_table" (.ref pa) []))) := (Same.but s1).upd
     have x2 : upd H1 x (.ins C dx (putF "ask_table" (.ref pa) [])) x = some (.ins C dx [("ask_table", .ref pa)]) := upd_same
     have b12' : But x H1 (upd H1 x (.ins C dx (putF "ask_table" (.ref pa) []))) := (Same.but fun _ _ z => z).upd
     have pa2 : upd H1 x (.ins C dx (putF "ask_table" (.ref pa) [])) pa = some (.dK wsa) := by rw [upd_ne nxa]; exact hpa1
     revert b2 x2 pa2 b12'
     generalize upd H1 x (.ins C dx (putF "ask_table" (.ref pa) [])) = H2
     intro b2 x2 b12' pa2
     refine ⟨_, rfl, sv, sigs, rfl, hsv.but b2 hx, hss, fun ks hks ps H3 wss kvs s3 hps hps3 pms srts hrs => ?_, fun hn H3 d f3 hxp => ?_⟩
     · rw [hks] at k2
       have nxs : ps ≠ x := fun e => by rw [e, x2] at hps; cases hps
       have nas : pa ≠ ps := fun e => by rw [← e, pa2] at hps; cases hps
       refine ⟨_, rfl, x, C, dx, _, rfl, s3 _ _ x2, pc.cls, pc.n2, (by show 1 < 1000; decide), ?_⟩
       have b4 : But x H (upd H3 x (.ins C dx (putF "signal_table" (.ref ps) [("ask_table", .ref pa)]))) := (b2.trans (Same.but s3)).upd
       have x4 : upd H3 x (.ins C dx (putF "signal_table" (.ref ps) [("ask_table", .ref pa)])) x = some (.ins C dx [("ask_table", .ref pa), ("signal_table", .ref ps)]) := upd_same
       have b34 : But x H3 (upd H3 x (.ins C dx (putF "signal_table" (.ref ps) [("ask_table", .ref pa)]))) := (Same.but fun _ _ z => z).upd
       have pa4 : upd H3 x (.ins C dx (putF "signal_table" (.ref ps) [("ask_table", .ref pa)])) pa = some (.dK wsa) := by rw [upd_ne nxa]; exact s3 _ _ pa2
       have ps4 : upd H3 x (.ins C dx (putF "signal_table" (.ref ps) [("ask_table", .ref pa)])) ps = some (.dK wss) := by rw [upd_ne nxs]; exact hps3
       revert b4 x4 pa4 ps4 b34
       generalize upd H3 x (.ins C dx (putF "signal_table" (.ref ps) [("ask_table", .ref pa)])) = H4
       intro b4 x4 b34 pa4 ps4
       refine ⟨_, rfl, iv, ins, rfl, hiv.kp (b4.kp hx), hsi, fun hi => ?_, fun hi H5 d s5 hxp => ?_⟩
       · simp only [hi, if_true] at k2
         refine ⟨_, rfl, x, C, dx, _, rfl, x4, pc.cls, pc.n3, (by show 2 < 1000; decide), ?_⟩
         have b5 : But x H (upd H4 x (.ins C dx (putF "input_words" iv [("ask_table", .ref pa), ("signal_table", .ref ps)]))) := b4.upd
         have x5 : upd H4 x (.ins C dx (putF "input_words" iv [("ask_table", .ref pa), ("signal_table", .ref ps)])) x = some (.ins C dx [("ask_table", .ref pa), ("signal_table", .ref ps), ("input_words", iv)]) := upd_same
         have b45 : But x H4 (upd H4 x (.ins C dx (putF "input_words" iv [("ask_table", .ref pa), ("signal_table", .ref ps)]))) := (Same.but fun _ _ z => z).upd
         have pa5 : upd H4 x (.ins C dx (putF "input_words" iv [("ask_table", .ref pa), ("signal_table", .ref ps)])) pa = some (.dK wsa) := by rw [upd_ne nxa]; exact pa4
         have ps5 : upd H4 x (.ins C dx (putF "input_words" iv [("ask_table", .ref pa), ("signal_table", .ref ps)])) ps = some (.dK wss) := by rw [upd_ne nxs]; exact ps4
         revert b5 x5 pa5 ps5 b45
         generalize upd H4 x (.ins C dx (putF "input_words" iv [("ask_table", .ref pa), ("signal_table", .ref ps)])) = H5
         intro b5 x5 b45 pa5 ps5
         have b35 : But x H3 H5 := b34.trans b45
         have b25 : But x H2 H5 := (Same.but s3).trans b35
         refine ⟨_, rfl, x, C, dx, _, _, rfl, x5, pc.cls, pc.n1, rfl, _, rfl, x, C, dx, _, _, rfl, x5, pc.cls, pc.n2, rfl, fun y dy hy hdy hne => ?_⟩
         have s6 : Same H5 (upd (upd H5 dy (.own y)) y (.ins RC0 dy [])) := (Same.new hdy).trans (Same.new (by rw [upd_ne hne.symm]; exact hy))
         have y6 : upd (upd H5 dy (.own y)) y (.ins RC0 dy []) y = some (.ins RC0 dy []) := upd_same
         revert s6 y6
         generalize upd (upd H5 dy (.own y)) y (.ins RC0 dy []) = H6
         intro s6 y6
         refine ⟨y, dy, pa, ps, ⟨ka.map (·.1), ks.map (·.1), false⟩, rfl, y6, KvsR.known (s6 _ _ pa5) hra pma, KvsR.known (s6 _ _ ps5) hrs pms, fun H7 R eR1 eR2 hfree O7 but7 => ⟨rfl, ?_⟩⟩
         subst eR1
         have but57 : Same H5 H7 := fun b o hb => but7 b o (s6 b o hb) fun e => by rw [e, hy] at hb; cases hb
         have b7 : But x H H7 := b5.trans (Same.but but57)
         have outL : ∀ b o, H5 b = some o → b ∉ R.L := fun b o hb hm => by
           have hm : b = R.a ∨ b ∈ [R.l, R.s, R.g, R.e] := by simpa [RcA.L] using hm
           rcases hm with e | hm
           · rw [e, hy] at hb; cases hb
           · have := hfree b hm
             rw [s6 b o hb] at this
             cases this
         refine ⟨_, rfl, _, _, _, rfl, by rw [← eR2]; exact O7.ob, rfl, _, rfl, R, _, rv, rows, rfl, eR2, O7, hrv.but b7 hx, hwr, fun c hc H8 f8 O8 => ?_, fun part path he H8 d f8 hxp => ?_⟩
         · have s8 : Same H5 H8 := fun b o hb => f8 b o (but57 b o hb) (outL b o hb)
           have b8 : But x H H8 := b5.trans (Same.but s8)
           obtain ⟨ds, rfl, hchk, hsz⟩ := checkAll_ok hc
           have hwd : wts ds ≤ 30000 := by rw [wt_list] at hwr; omega
           have hrok := rowsOk_of _ 5 _ _ _ _ _ hchk (by decide)
           refine ⟨_, rfl, rv, ds, rfl, (hrv.but b8 hx).lst, hrok, hwd, fun p xs H9 s9 hp hp9 hdp => ?_⟩
           have x9 := s9 _ _ (s8 _ _ x5)
           refine ⟨_, rfl, x, C, dx, _, rfl, x9, pc.cls, pc.n4, (by show 3 < 1000; decide), ?_⟩
           have O9 := O8.mono s9
           have ob9 : H9 R.a = some (.ins R.C R.dx (rcF R ⟨ka.map (·.1), ks.map (·.1), false⟩ c)) := O9.ob
           have nRx : R.a ≠ x := fun e => by rw [e, x9] at ob9; simp [rcF] at ob9
           have nLx : R.l ≠ x := fun e => by have := O9.dl; rw [e, x9] at this; cases this
           have nSx : R.s ≠ x := fun e => by have := O9.ds; rw [e, x9] at this; cases this
           have nGx : R.g ≠ x := fun e => by have := O9.dg; rw [e, x9] at this; cases this
           have npx : p ≠ x := fun e => by rw [e, x9] at hp9; cases hp9
           have b10 : But x H9 (upd H9 x (.ins C dx (putF "row_list" (.ref p) [("ask_table", .ref pa), ("signal_table", .ref ps), ("input_words", iv)]))) := (Same.but fun _ _ z => z).upd
           have x10 : upd H9 x (.ins C dx (putF "row_list" (.ref p) [("ask_table", .ref pa), ("signal_table", .ref ps), ("input_words", iv)])) x = some (.ins C dx [("ask_table", .ref pa), ("signal_table", .ref ps), ("input_words", iv), ("row_list", .ref p)]) := upd_same
           revert b10 x10
           generalize upd H9 x (.ins C dx _) = H10
           intro b10 x10
           obtain ⟨z1, z2, z3⟩ := sizes_small hsz
           refine ⟨_, rfl, R.a, R.C, R.dx, _, _, rfl, b10 _ _ ob9 nRx, eR2 ▸ rc.cls, eR2 ▸ rc.n5, rfl, tyV_dK (b10 _ _ O9.dl nLx), R.l, dkT c.labels, rfl, rfl, .inl (b10 _ _ O9.dl nLx), fun q0 hq0 => ?_⟩
           refine ⟨q0, R.l, dkT c.labels, c.labels, rfl, upd_same, .inl (Same.new hq0 _ _ (b10 _ _ O9.dl nLx)), dkT_keys c.labels, by omega, fun y0 l0 perm0 sort0 hl0 => ?_⟩
           have s10 := (Same.new (o := keysO q0 R.l) hq0).trans (Same.new (o := .lst (y0.map V.str)) hl0)
           have el0 := at_new (o := .lst (y0.map V.str)) hl0
           have free0 : H10 l0 = none := (Same.new (o := keysO q0 R.l) hq0).free hl0
           revert s10 el0
           generalize upd (upd H10 q0 _) l0 _ = G0
           intro s10 el0
           refine ⟨_, rfl, x, C, dx, _, rfl, s10 _ _ x10, pc.cls, pc.n5, (by show 4 < 1000; decide), ?_⟩
           have b11 : But x H9 (upd G0 x (.ins C dx (putF "label_names" (.ref l0) [("ask_table", .ref pa), ("signal_table", .ref ps), ("input_words", iv), ("row_list", .ref p)]))) := (b10.trans (Same.but s10)).upd
           have x11 : upd G0 x (.ins C dx (putF "label_names" (.ref l0) [("ask_table", .ref pa), ("signal_table", .ref ps), ("input_words", iv), ("row_list", .ref p)])) x = some (.ins C dx [("ask_table", .ref pa), ("signal_table", .ref ps), ("input_words", iv), ("row_list", .ref p), ("label_names", .ref l0)]) := upd_same
           have nl0 : l0 ≠ x := fun e => by rw [e, x10] at free0; cases free0
           have c10 : But x H10 (upd G0 x (.ins C dx (putF "label_names" (.ref l0) [("ask_table", .ref pa), ("signal_table", .ref ps), ("input_words", iv), ("row_list", .ref p)]))) := (Same.but s10).upd
           have fl0 : upd G0 x (.ins C dx (putF "label_names" (.ref l0) [("ask_table", .ref pa), ("signal_table", .ref ps), ("input_words", iv), ("row_list", .ref p)])) l0 = some (.lst (y0.map V.str)) := by rw [upd_ne nl0]; exact el0
           revert b11 x11 c10 fl0
           generalize upd G0 x (.ins C dx _) = H11
           intro b11 x11 c10 fl0
           refine ⟨_, rfl, R.a, R.C, R.dx, _, _, rfl, b11 _ _ ob9 nRx, eR2 ▸ rc.cls, eR2 ▸ rc.n6, rfl, tyV_dK (b11 _ _ O9.ds nSx), R.s, dkT c.slots, rfl, rfl, .inl (b11 _ _ O9.ds nSx), fun q1 hq1 => ?_⟩
           refine ⟨q1, R.s, dkT c.slots, c.slots, rfl, upd_same, .inl (Same.new hq1 _ _ (b11 _ _ O9.ds nSx)), dkT_keys c.slots, by omega, fun y1 l1 perm1 sort1 hl1 => ?_⟩
           have s11 := (Same.new (o := keysO q1 R.s) hq1).trans (Same.new (o := .lst (y1.map V.str)) hl1)
           have el1 := at_new (o := .lst (y1.map V.str)) hl1
           have free1 : H11 l1 = none := (Same.new (o := keysO q1 R.s) hq1).free hl1
           revert s11 el1
           generalize upd (upd H11 q1 _) l1 _ = G1
           intro s11 el1
           refine ⟨_, rfl, x, C, dx, _, rfl, s11 _ _ x11, pc.cls, pc.n6, (by show 5 < 1000; decide), ?_⟩
           have b12 : But x H9 (upd G1 x (.ins C dx (putF "slot_names" (.ref l1) [("ask_table", .ref pa), ("signal_table", .ref ps), ("input_words", iv), ("row_list", .ref p), ("label_names", .ref l0)]))) := (b11.trans (Same.but s11)).upd
           have x12 : upd G1 x (.ins C dx (putF "slot_names" (.ref l1) [("ask_table", .ref pa), ("signal_table", .ref ps), ("input_words", iv), ("row_list", .ref p), ("label_names", .ref l0)])) x = some (.ins C dx [("ask_table", .ref pa), ("signal_table", .ref ps), ("input_words", iv), ("row_list", .ref p), ("label_names", .ref l0), ("slot_names", .ref l1)]) := upd_same
           have nl1 : l1 ≠ x := fun e => by rw [e, x11] at free1; cases free1
           have c11 : But x H11 (upd G1 x (.ins C dx (putF "slot_names" (.ref l1) [("ask_table", .ref pa), ("signal_table", .ref ps), ("input_words", iv), ("row_list", .ref p), ("label_names", .ref l0)]))) := (Same.but s11).upd
           have fl1 : upd G1 x (.ins C dx (putF "slot_names" (.ref l1) [("ask_table", .ref pa), ("signal_table", .ref ps), ("input_words", iv), ("row_list", .ref p), ("label_names", .ref l0)])) l1 = some (.lst (y1.map V.str)) := by rw [upd_ne nl1]; exact el1
           revert b12 x12 c11 fl1
           generalize upd G1 x (.ins C dx _) = H12
           intro b12 x12 c11 fl1
           refine ⟨_, rfl, R.a, R.C, R.dx, _, _, rfl, b12 _ _ ob9 nRx, eR2 ▸ rc.cls, eR2 ▸ rc.n7, rfl, tyV_dK (b12 _ _ O9.dg nGx), R.g, dkT c.gates, rfl, rfl, .inl (b12 _ _ O9.dg nGx), fun q2 hq2 => ?_⟩
           refine ⟨q2, R.g, dkT c.gates, c.gates, rfl, upd_same, .inl (Same.new hq2 _ _ (b12 _ _ O9.dg nGx)), dkT_keys c.gates, by omega, fun y2 l2 perm2 sort2 hl2 => ?_⟩
           have s12 := (Same.new (o := keysO q2 R.g) hq2).trans (Same.new (o := .lst (y2.map V.str)) hl2)
           have el2 := at_new (o := .lst (y2.map V.str)) hl2
           have free2 : H12 l2 = none := (Same.new (o := keysO q2 R.g) hq2).free hl2
           revert s12 el2
           generalize upd (upd H12 q2 _) l2 _ = G2
           intro s12 el2
           refine ⟨_, rfl, x, C, dx, _, rfl, s12 _ _ x12, pc.cls, pc.n7, (by show 6 < 1000; decide), ?_⟩
           have b13 : But x H9 (upd G2 x (.ins C dx (putF "gate_names" (.ref l2) [("ask_table", .ref pa), ("signal_table", .ref ps), ("input_words", iv), ("row_list", .ref p), ("label_names", .ref l0), ("slot_names", .ref l1)]))) := (b12.trans (Same.but s12)).upd
           have x13 : upd G2 x (.ins C dx (putF "gate_names" (.ref l2) [("ask_table", .ref pa), ("signal_table", .ref ps), ("input_words", iv), ("row_list", .ref p), ("label_names", .ref l0), ("slot_names", .ref l1)])) x = some (.ins C dx [("ask_table", .ref pa), ("signal_table", .ref ps), ("input_words", iv), ("row_list", .ref p), ("label_names", .ref l0), ("slot_names", .ref l1), ("gate_names", .ref l2)]) := upd_same
           have nl2 : l2 ≠ x := fun e => by rw [e, x12] at free2; cases free2
           have c12 : But x H12 (upd G2 x (.ins C dx (putF "gate_names" (.ref l2) [("ask_table", .ref pa), ("signal_table", .ref ps), ("input_words", iv), ("row_list", .ref p), ("label_names", .ref l0), ("slot_names", .ref l1)]))) := (Same.but s12).upd
           have fl2 : upd G2 x (.ins C dx (putF "gate_names" (.ref l2) [("ask_table", .ref pa), ("signal_table", .ref ps), ("input_words", iv), ("row_list", .ref p), ("label_names", .ref l0), ("slot_names", .ref l1)])) l2 = some (.lst (y2.map V.str)) := by rw [upd_ne nl2]; exact el2
           revert b13 x13 c12 fl2
           generalize upd G2 x (.ins C dx _) = H13
           intro b13 x13 c12 fl2
           intro rt hrt
           refine ⟨_, rfl, x, C, dx, _, rfl, Same.new hrt _ _ x13, pc.cls, pc.n8, (by show 7 < 1000; decide), ?_⟩
           have nrt : rt ≠ x := fun e => by rw [e, x13] at hrt; cases hrt
           have c13 : But x H13 (upd (upd H13 rt (.dT [])) x (.ins C dx (putF "row_table" (.ref rt) [("ask_table", .ref pa), ("signal_table", .ref ps), ("input_words", iv), ("row_list", .ref p), ("label_names", .ref l0), ("slot_names", .ref l1), ("gate_names", .ref l2)]))) := (Same.but (Same.new hrt)).upd
           have x14 : upd (upd H13 rt (.dT [])) x (.ins C dx (putF "row_table" (.ref rt) [("ask_table", .ref pa), ("signal_table", .ref ps), ("input_words", iv), ("row_list", .ref p), ("label_names", .ref l0), ("slot_names", .ref l1), ("gate_names", .ref l2)])) x = some (.ins C dx [("ask_table", .ref pa), ("signal_table", .ref ps), ("input_words", iv), ("row_list", .ref p), ("label_names", .ref l0), ("slot_names", .ref l1), ("gate_names", .ref l2), ("row_table", .ref rt)]) := upd_same
           have ert : upd (upd H13 rt (.dT [])) x (.ins C dx (putF "row_table" (.ref rt) [("ask_table", .ref pa), ("signal_table", .ref ps), ("input_words", iv), ("row_list", .ref p), ("label_names", .ref l0), ("slot_names", .ref l1), ("gate_names", .ref l2)])) rt = some (.dT []) := by rw [upd_ne nrt]; exact upd_same
           revert c13 x14 ert
           generalize upd (upd H13 rt (.dT [])) x (.ins C dx _) = H14
           intro c13 x14 ert
           intro lz hlz
           refine ⟨_, rfl, x, C, dx, _, rfl, Same.new hlz _ _ x14, pc.cls, pc.n9, (by show 8 < 1000; decide), ?_⟩
           have nlz : lz ≠ x := fun e => by rw [e, x14] at hlz; cases hlz
           have c14 : But x H14 (upd (upd H14 lz (.dT [])) x (.ins C dx (putF "list_sizes" (.ref lz) [("ask_table", .ref pa), ("signal_table", .ref ps), ("input_words", iv), ("row_list", .ref p), ("label_names", .ref l0), ("slot_names", .ref l1), ("gate_names", .ref l2), ("row_table", .ref rt)]))) := (Same.but (Same.new hlz)).upd
           have x15 : upd (upd H14 lz (.dT [])) x (.ins C dx (putF "list_sizes" (.ref lz) [("ask_table", .ref pa), ("signal_table", .ref ps), ("input_words", iv), ("row_list", .ref p), ("label_names", .ref l0), ("slot_names", .ref l1), ("gate_names", .ref l2), ("row_table", .ref rt)])) x = some (.ins C dx [("ask_table", .ref pa), ("signal_table", .ref ps), ("input_words", iv), ("row_list", .ref p), ("label_names", .ref l0), ("slot_names", .ref l1), ("gate_names", .ref l2), ("row_table", .ref rt), ("list_sizes", .ref lz)]) := upd_same
           have elz : upd (upd H14 lz (.dT [])) x (.ins C dx (putF "list_sizes" (.ref lz) [("ask_table", .ref pa), ("signal_table", .ref ps), ("input_words", iv), ("row_list", .ref p), ("label_names", .ref l0), ("slot_names", .ref l1), ("gate_names", .ref l2), ("row_table", .ref rt)])) lz = some (.dT []) := by rw [upd_ne nlz]; exact upd_same
           revert c14 x15 elz
           generalize upd (upd H14 lz (.dT [])) x (.ins C dx _) = H15
           intro c14 x15 elz
           refine ⟨_, rfl, x, dx, _, rfl, x15, rfl, _, rfl, x, C, dx, _, _, rfl, x15, pc.cls, pc.n4, rfl, sz_lit (by show 0 ≤ 100000; decide), fun e0 he0 => ?_⟩
           have s15 := Same.new (o := .tup []) he0
           have l15 := at_new (o := .tup []) he0
           revert s15 l15
           generalize upd H15 e0 _ = H16
           intro s15 l15
           have b14 : But x H9 H14 := b13.trans c13
           have b15 : But x H9 H15 := b14.trans c14
           have b16 : But x H9 H16 := b15.trans (Same.but s15)
           have bH : But x H H16 := (b8.trans (Same.but s9)).trans b16
           have lst16 : ∀ b, LstAt H b → LstAt H16 b := fun b hb => by
             obtain ⟨zs, hz⟩ := hb
             exact ⟨zs, bH b _ hz fun e => by rw [e, hx] at hz; cases hz⟩
           have nS : ∀ b, b ≠ x → ∀ G, But x H G → G b = none → ¬ LstAt H b := fun b hb G hG hn hl => by
             obtain ⟨zs, hz⟩ := hl
             rw [hG b _ hz hb] at hn
             cases hn
           have nxS : ¬ LstAt H x := fun hl => by obtain ⟨zs, hz⟩ := hl; rw [hx] at hz; cases hz
           have b9H : But x H H9 := b8.trans (Same.but s9)
           have npS : ¬ LstAt H p := nS p npx H8 b8 hp
           have nrtS : ¬ LstAt H rt := nS rt nrt H13 (b9H.trans b13) hrt
           have nlzS : ¬ LstAt H lz := nS lz nlz H14 (b9H.trans b14) hlz
           have nl0S : ¬ LstAt H l0 := nS l0 nl0 H10 (b9H.trans b10) free0
           have nl1S : ¬ LstAt H l1 := nS l1 nl1 H11 (b9H.trans b11) free1
           have nl2S : ¬ LstAt H l2 := nS l2 nl2 H12 (b9H.trans b12) free2
           have kp16 : Kp H9 H16 := b16.kp x9
           have hdp16 : DpAll K (cutH (LstAt H) H16) xs ds := by
             refine DpAll.kp (cut_kpS kp16) (DpAll.mono (cut_sub fun b hb => ?_) hdp)
             obtain ⟨zs, hz⟩ := hb
             exact .inl ⟨zs, b8 b _ hz fun e => by rw [e, hx] at hz; cases hz⟩
           have row16 : Dp K (cutH (LstAt H) H16) (.ref p) (.list ds) := .lst (.inl (.inl (by rw [cut_not npS]; exact b16 _ _ hp9 npx))) hdp16
           have nrl : rt ≠ lz := fun e => by rw [← e, ert] at hlz; cases hlz
           have tb16 : TB K (cutH (LstAt H) H16) ⟨x, C, dx, rt, lz, [("ask_table", .ref pa), ("signal_table", .ref ps), ("input_words", iv), ("row_list", .ref p), ("label_names", .ref l0), ("slot_names", .ref l1), ("gate_names", .ref l2), ("row_table", .ref rt), ("list_sizes", .ref lz)]⟩ ([], []) := ⟨by rw [cut_not nxS]; exact s15 _ _ x15, rfl, rfl, rfl, ⟨[], by rw [cut_not nrtS]; exact s15 _ _ (c14 _ _ ert nrt), trivial⟩, by rw [cut_not nlzS]; exact s15 _ _ elz, nrl⟩
           refine ⟨LstAt H, ⟨x, C, dx, rt, lz, [("ask_table", .ref pa), ("signal_table", .ref ps), ("input_words", iv), ("row_list", .ref p), ("label_names", .ref l0), ("slot_names", .ref l1), ("gate_names", .ref l2), ("row_table", .ref rt), ("list_sizes", .ref lz)]⟩, ([], []), p, e0, ds, [], 0, rfl, rfl, tb16, row16, hrok, l15, by decide, ⟨Nat.le_refl _, Nat.le_refl _⟩, by omega, fun H17 fr17 tb17 => ?_⟩
           have kp17 : Kp H16 H17 := (tb16.mono cut_all).kp fr17
           have at17 : ∀ b o, H16 b = some o → b ≠ rt → b ≠ lz → H17 b = some o := fun b o hb h1 h2 => fr17 b o hb fun m => by
             rcases List.mem_cons.mp m with e | m
             · exact h1 e
             · exact h2 (List.mem_singleton.mp m)
           have bH17 : But x H H17 := fun b o hb hn => at17 b o (bH b o hb hn) (fun e => by rw [e] at hb; have := (b9H.trans b13) rt o hb nrt; rw [this] at hrt; cases hrt) (fun e => by rw [e] at hb; have := (b9H.trans b14) lz o hb nlz; rw [this] at hlz; cases hlz)
           have lst17 : ∀ b, LstAt H b → LstAt H17 b := fun b hb => by
             obtain ⟨zs, hz⟩ := hb
             exact ⟨zs, bH17 b _ hz fun e => by rw [e, hx] at hz; cases hz⟩
           have s59 : Same H5 H9 := s8.trans s9
           have pa9 := s59 _ _ pa5
           have ps9 := s59 _ _ ps5
           have nrta : pa ≠ rt := fun e => by have := b13 _ _ pa9 nxa; rw [e, hrt] at this; cases this
           have nlza : pa ≠ lz := fun e => by have := b14 _ _ pa9 nxa; rw [e, hlz] at this; cases this
           have nrts : ps ≠ rt := fun e => by have := b13 _ _ ps9 nxs; rw [e, hrt] at this; cases this
           have nlzs : ps ≠ lz := fun e => by have := b14 _ _ ps9 nxs; rw [e, hlz] at this; cases this
           have pa17 : H17 pa = some (.dK wsa) := at17 _ _ (b16 _ _ pa9 nxa) nrta nlza
           have ps17 : H17 ps = some (.dK wss) := at17 _ _ (b16 _ _ ps9 nxs) nrts nlzs
           have dS : ∀ b kv, H17 b = some (.dK kv) → ¬ LstAt H b := fun b kv hb hl => by
             obtain ⟨zs, hz⟩ := lst17 b hl
             rw [hb] at hz
             cases hz
           have k517 : Kp H5 H17 := (s59.kp.trans kp16).trans kp17
           have k117 : Kp H1 H17 := fun b o hb ho => by
             have hbx : b ≠ x := fun e => by rw [e, s1 _ _ hx] at hb; cases hb; cases ho
             exact k517 b o (b25 b o (b12' b o hb hbx) hbx) ho
           have k317 : Kp H3 H17 := fun b o hb ho => by
             have hbx : b ≠ x := fun e => by rw [e, s3 _ _ x2] at hb; cases hb; cases ho
             exact k517 b o (b35 b o hb hbx) ho
           have noA : ∀ q ∈ kva, noL q.2 = true := fun q hq => noL_words (okTab_mem hka q (pma.mem_iff.mp hq))
           have noB : ∀ q ∈ kvs, noL q.2 = true := fun q hq => noL_box (okTab_mem hks q (pms.mem_iff.mp hq))
           refine k1 ka ks ds c hka hks hi rfl hc H17 ⟨x, C, dx, pa, ps, p, l0, l1, l2, rt, lz, iv⟩ kva kvs y0 y1 y2 bH17 rfl rfl pma srta pms srts perm0 sort0 perm1 sort1 perm2 sort2 hpa (by
             cases z : H ps with
             | none => rfl
             | some o => rw [b2 _ _ z nxs] at hps; cases hps) ?_
           refine ⟨by rw [cut_not nxS]; exact at17 _ _ (s15 _ _ x15) nrt.symm nlz.symm, ⟨wsa, by rw [cut_not (dS _ _ pa17)]; exact pa17, (hra.mono k117).cutN lst17 noA⟩, ⟨wss, by rw [cut_not (dS _ _ ps17)]; exact ps17, (hrs.mono k317).cutN lst17 noB⟩, noL_cut lst17 (hiv.kp (bH17.kp hx)) (noL_words hi), ?_, ?_, ?_, ?_, tb17⟩
           · exact row16.kp (cut_kpS kp17)
           · show cutH (LstAt H) H17 l0 = _
             rw [cut_not nl0S]
             exact kp17 _ _ (s15 _ _ (c14 _ _ (c13 _ _ (c12 _ _ (c11 _ _ fl0 nl0) nl0) nl0) nl0)) rfl
           · show cutH (LstAt H) H17 l1 = _
             rw [cut_not nl1S]
             exact kp17 _ _ (s15 _ _ (c14 _ _ (c13 _ _ (c12 _ _ fl1 nl1) nl1) nl1)) rfl
           · show cutH (LstAt H) H17 l2 = _
             rw [cut_not nl2S]
             exact kp17 _ _ (s15 _ _ (c14 _ _ (c13 _ _ fl2 nl2) nl2)) rfl
         · refine k2 part path he H8 d (fun b o hb hn => ?_) hxp
           have hbx : b ≠ x := fun e => hn (by rw [e]; exact List.mem_cons_self)
           have h5 := b5 b o hb hbx
           exact f8 b o (but57 b o h5) (outL b o h5)
       · simp only [hi, if_false, Bool.false_eq_true] at k2
         exact k2 _ _ rfl H5 d (fun b o hb hn => s5 b o (b4 b o hb fun e => hn (by rw [e]; exact List.mem_cons_self))) hxp
     · rw [hn] at k2
       exact k2 _ _ rfl H3 d (fun b o hb hn => f3 b o (b2 b o hb fun e => hn (by rw [e]; exact List.mem_cons_self)) fun m => hn (List.mem_cons_of_mem _ (List.mem_append_right _ m))) hxp
   · rw [hn] at k2
     exact k2 _ _ rfl H1 d (fun b o hb hn => f1 b o hb fun m => hn (List.mem_cons_of_mem _ (List.mem_append_left _ m))) hxp
end
end Op
namespace L2
open PySem PySem.Spec PyProof.Rows
section
variable {X : Cx} {pins : List (Addr × Obj)} {σ : St} {H : Hp} {s : Shared}
end
section
variable {X : Cx}
end
end L2
namespace L2
open PySem PySem.Spec PyProof.Rows
section
variable {prog : Program} {w : World}
end
section
variable {X : Cx}
end
end L2
namespace L2
open PySem PySem.Spec PyProof.Rows
def rIsEd (K : PySem.W.Frag) (cls : Value) (d : Option Addr) (C a : Addr) : List V → Hp → VK → Prop := fun xs H Q => ∃ (c : V) (u : Value) (b : Bool) (dd : Addr) (fs : List (Str × V)), xs = [.ref a, c] ∧ ClsV c u ∧ cls = .ref C ∧ d = some dd ∧ H dd = some (.xd fs) ∧ PySem.W.kitOne K (.ref C) u = some b ∧ Q (.bl b) H
theorem call_isEd {X : Cx} {a C : Addr} {oe : Obj} {cls : Value} {d : Option Addr} {pn : List (Addr × Obj)} (T : XAsk X.K C) (hz : Zc cls d oe) (hf : ∃ vs, oe.data = .fields vs) : CallR (X.suite a ((a, oe) :: pn)) (.builtin "isinstance") (rIsEd X.K cls d C a) := by
 intro pins s σ H xs us Q I r h
 obtain ⟨c, u, b, dd, fs, rfl, k, ec, ed, ea, e, q⟩ := h
 obtain ⟨u1, u2, rfl, r1, r2⟩ := vals2 r
 have e2 := k.eq r2
 subst e2
 obtain rfl : u1 = Value.ref a := r1
 subst ec
 subst ed
 obtain ⟨ha, _⟩ := I.pin (a, oe) (List.mem_append_left _ List.mem_cons_self)
 obtain ⟨vs, hd⟩ := hf
 have hx : ObjOk X.prog X.w H s.heap dd (.xd fs) := I.hok dd _ ea
 obtain ⟨mA, hns, hr⟩ := hx
 obtain ⟨od, ho, hl⟩ := lookIn_ns hns
 have J : PySem.W.InstAt s.heap a oe C (some od) := ⟨ha, hz.1, by unfold PySem.W.notCls; rw [hd] <;> rfl, by rw [hz.2]; exact ho⟩
 obtain ⟨cd, hc, _⟩ := PySem.W.any_some T.hd
 exact PySem.W.kia_one (PySem.W.kitx_exc (by rw [hc]; rfl) T.hg T.hk T.hs T.ha T.hn T.ht T.hm) I.kIn J e (fun z => nomatch z) fun tk => ⟨.bl b, H, I.tok tk, rfl, q⟩
end L2
namespace L2
open PySem PySem.Spec PyProof.Rows
section
variable {P : Program} {w : World} {K : PySem.W.Frag} {mg : Str → Option Value} {base : Heap}
end
end L2
namespace Op
open PySem L2 PyProof.Rows
theorem ixN_nat {n j : Nat} (h : j < n) : ixN n (j : Int) = some j := by
 unfold ixN
 rw [if_pos (by omega), if_pos (by omega)]
 rfl
end Op
set_option pp.maxSteps 900
namespace Op
open PySem L2 PyProof.Rows
structure Tk where
 k : Str
 n : Option Nat
 ws : List Str
def Tk.parts (t : Tk) : List PyData := (t.n.toList.map fun n : Nat => PyData.int (n : Int)) ++ t.ws.map .str
def Tk.d (t : Tk) : PyData := .tuple (.str t.k :: t.parts)
def Tk.vs (t : Tk) : List V := .str t.k :: ((t.n.toList.map fun n : Nat => V.int (n : Int)) ++ t.ws.map V.str)
def forms : List (Str × Str) := [("begin", "w"), ("answer", "nw"), ("rang", "n"), ("signal", "ww"), ("asked", "w"), ("set", ""), ("dropped", "n"), ("noted", "w"), ("marked", "w"), ("ended", "w"), ("anew", "w")]
def sigOf (t : Tk) : List Nat := (t.n.toList.map fun _ => 110) ++ t.ws.map fun _ => 119
def Okt (t : Tk) : Prop := ∃ f, forms.lookup t.k = some f ∧ f.cps.toList = sigOf t ∧ ∀ w ∈ t.ws, isWordS w = true
inductive TkC : Tk → Prop
 | begin {w : Str} : isWordS w = true → TkC ⟨"begin", none, [w]⟩
 | answer {n : Nat} {w : Str} : isWordS w = true → TkC ⟨"answer", some n, [w]⟩
 | rang {n : Nat} : TkC ⟨"rang", some n, []⟩
 | signal {a b : Str} : isWordS a = true → isWordS b = true → TkC ⟨"signal", none, [a, b]⟩
 | asked {w : Str} : isWordS w = true → TkC ⟨"asked", none, [w]⟩
 | set : TkC ⟨"set", none, []⟩
 | dropped {n : Nat} : TkC ⟨"dropped", some n, []⟩
 | noted {w : Str} : isWordS w = true → TkC ⟨"noted", none, [w]⟩
 | marked {w : Str} : isWordS w = true → TkC ⟨"marked", none, [w]⟩
 | ended {w : Str} : isWordS w = true → TkC ⟨"ended", none, [w]⟩
 | anew {w : Str} : isWordS w = true → TkC ⟨"anew", none, [w]⟩
theorem sig_w {n : Option Nat} {ws : List Str} {k : Str} (h : sigOf ⟨k, n, ws⟩ = [119]) : n = none ∧ ∃ w, ws = [w] := by
 cases n with
 | some i => cases ws <;> cases h
 | none =>
   cases ws with
   | nil => cases h
   | cons a r =>
     cases r with
     | nil => exact ⟨rfl, a, rfl⟩
     | cons b r => cases h
theorem sig_n {n : Option Nat} {ws : List Str} {k : Str} (h : sigOf ⟨k, n, ws⟩ = [110]) : ws = [] ∧ ∃ i, n = some i := by
 cases n with
 | some i =>
   cases ws with
   | nil => exact ⟨rfl, i, rfl⟩
   | cons a r => cases h
 | none =>
   cases ws with
   | nil => cases h
   | cons a r =>
     injection h with h _
     cases h
theorem sig_0 {n : Option Nat} {ws : List Str} {k : Str} (h : sigOf ⟨k, n, ws⟩ = []) : n = none ∧ ws = [] := by
 cases n with
 | some i => cases h
 | none =>
   cases ws with
   | nil => exact ⟨rfl, rfl⟩
   | cons a r => cases h
theorem sig_nw {n : Option Nat} {ws : List Str} {k : Str} (h : sigOf ⟨k, n, ws⟩ = [110, 119]) : ∃ i w, n = some i ∧ ws = [w] := by
 cases n with
 | some i =>
   cases ws with
   | nil => cases h
   | cons a r =>
     cases r with
     | nil => exact ⟨i, a, rfl, rfl⟩
     | cons b r => cases h
 | none =>
   cases ws with
   | nil => cases h
   | cons a r =>
     injection h with h _
     cases h
theorem sig_ww {n : Option Nat} {ws : List Str} {k : Str} (h : sigOf ⟨k, n, ws⟩ = [119, 119]) : n = none ∧ ∃ a b, ws = [a, b] := by
 cases n with
 | some i => injection h with h _; cases h
 | none =>
   cases ws with
   | nil => cases h
   | cons a r =>
     cases r with
     | nil => cases h
     | cons b r =>
       cases r with
       | nil => exact ⟨rfl, a, b, rfl⟩
       | cons c r => cases h
theorem look_mem {k f : Str} : ∀ {l : List (Str × Str)}, l.lookup k = some f → (k, f) ∈ l
 | [], h => by cases h
 | (a, b) :: r, h => by
   unfold List.lookup at h
   split at h
   · rename_i e
     obtain rfl := Option.some.inj h
     have e : k = a := by simpa using e
     subst e
     exact List.mem_cons_self
   · exact List.mem_cons_of_mem _ (look_mem h)
theorem Okt.c {t : Tk} (h : Okt t) : TkC t := by
 obtain ⟨f, h1, h2, h3⟩ := h
 obtain ⟨k, n, ws⟩ := t
 have hm := look_mem h1
 simp only [forms, List.mem_cons, List.not_mem_nil, or_false, Prod.mk.injEq] at hm
 have one : f.cps.toList = [119] → n = none ∧ ∃ w, ws = [w] ∧ isWordS w = true := fun e => by
   obtain ⟨e1, w, rfl⟩ := sig_w (h2.symm.trans e)
   exact ⟨e1, w, rfl, h3 w List.mem_cons_self⟩
 have num : f.cps.toList = [110] → ws = [] ∧ ∃ i, n = some i := fun e => sig_n (h2.symm.trans e)
 rcases hm with ⟨rfl, rfl⟩ | ⟨rfl, rfl⟩ | ⟨rfl, rfl⟩ | ⟨rfl, rfl⟩ | ⟨rfl, rfl⟩ | ⟨rfl, rfl⟩ | ⟨rfl, rfl⟩ | ⟨rfl, rfl⟩ | ⟨rfl, rfl⟩ | ⟨rfl, rfl⟩ | ⟨rfl, rfl⟩
 · obtain ⟨rfl, w, rfl, hw⟩ := one (by decide +kernel); exact .begin hw
 · obtain ⟨i, w, rfl, rfl⟩ := sig_nw (h2.symm.trans (by decide +kernel)); exact .answer (h3 w List.mem_cons_self)
 · obtain ⟨rfl, i, rfl⟩ := num (by decide +kernel); exact .rang
 · obtain ⟨rfl, a, b, rfl⟩ := sig_ww (h2.symm.trans (by decide +kernel)); exact .signal (h3 a List.mem_cons_self) (h3 b (List.mem_cons_of_mem _ List.mem_cons_self))
 · obtain ⟨rfl, w, rfl, hw⟩ := one (by decide +kernel); exact .asked hw
 · obtain ⟨rfl, rfl⟩ := sig_0 (h2.symm.trans (by decide +kernel)); exact .set
 · obtain ⟨rfl, i, rfl⟩ := num (by decide +kernel); exact .dropped
 · obtain ⟨rfl, w, rfl, hw⟩ := one (by decide +kernel); exact .noted hw
 · obtain ⟨rfl, w, rfl, hw⟩ := one (by decide +kernel); exact .marked hw
 · obtain ⟨rfl, w, rfl, hw⟩ := one (by decide +kernel); exact .ended hw
 · obtain ⟨rfl, w, rfl, hw⟩ := one (by decide +kernel); exact .anew hw
theorem TkC.ok {t : Tk} (h : TkC t) : Okt t := by
 cases h with
 | begin hw => exact ⟨"w", (show forms.lookup ("begin" : Str) = some ("w" : Str) by decide +kernel), rfl, fun x hx => by rw [List.mem_singleton.mp hx]; exact hw⟩
 | answer hw => exact ⟨"nw", (show forms.lookup ("answer" : Str) = some ("nw" : Str) by decide +kernel), rfl, fun x hx => by rw [List.mem_singleton.mp hx]; exact hw⟩
 | rang => exact ⟨"n", (show forms.lookup ("rang" : Str) = some ("n" : Str) by decide +kernel), rfl, fun x hx => (List.not_mem_nil hx).elim⟩
 | signal ha hb => exact ⟨"ww", (show forms.lookup ("signal" : Str) = some ("ww" : Str) by decide +kernel), rfl, fun x hx => by
     rcases List.mem_cons.mp hx with rfl | hx
     · exact ha
     · rw [List.mem_singleton.mp hx]; exact hb⟩
 | asked hw => exact ⟨"w", (show forms.lookup ("asked" : Str) = some ("w" : Str) by decide +kernel), rfl, fun x hx => by rw [List.mem_singleton.mp hx]; exact hw⟩
 | set => exact ⟨"", (show forms.lookup ("set" : Str) = some ("" : Str) by decide +kernel), rfl, fun x hx => (List.not_mem_nil hx).elim⟩
 | dropped => exact ⟨"n", (show forms.lookup ("dropped" : Str) = some ("n" : Str) by decide +kernel), rfl, fun x hx => (List.not_mem_nil hx).elim⟩
 | noted hw => exact ⟨"w", (show forms.lookup ("noted" : Str) = some ("w" : Str) by decide +kernel), rfl, fun x hx => by rw [List.mem_singleton.mp hx]; exact hw⟩
 | marked hw => exact ⟨"w", (show forms.lookup ("marked" : Str) = some ("w" : Str) by decide +kernel), rfl, fun x hx => by rw [List.mem_singleton.mp hx]; exact hw⟩
 | ended hw => exact ⟨"w", (show forms.lookup ("ended" : Str) = some ("w" : Str) by decide +kernel), rfl, fun x hx => by rw [List.mem_singleton.mp hx]; exact hw⟩
 | anew hw => exact ⟨"w", (show forms.lookup ("anew" : Str) = some ("w" : Str) by decide +kernel), rfl, fun x hx => by rw [List.mem_singleton.mp hx]; exact hw⟩
def codeFits (c : Nat) (d : PyData) : Bool := if c = 119 then isWord d else match d with | .int i => decide (0 ≤ i) | _ => false
def hasForm : PyData → Bool
 | .tuple (.str k :: parts) => match forms.lookup k with
   | none => false
   | some f => decide (parts.length = f.length) && (f.cps.toList.zip parts).all fun p => codeFits p.1 p.2
 | _ => false
def isOut (t : Tk) : Bool := decide (t.k ∈ (["begin", "answer", "rang", "signal"] : List Str))
def isLast (t : Tk) : Bool := decide (t.k ∈ (["ended", "anew"] : List Str))
theorem num_iff {t : Tk} (h : TkC t) : decide (t.k ∈ (["answer", "rang", "dropped"] : List Str)) = t.n.isSome := by
 cases h <;> rfl
def thingFits (k th : Str) : Bool := if k = "answer" then decide (th = "ask") else if k = "rang" then decide (th = "timer") else !decide (th = "gone")
def suits (t : Tk) (th : List Str) : Bool := match t.n with
 | none => true
 | some n => match th[n]? with | none => false | some x => thingFits t.k x
def enter (t : Tk) (th : List Str) : List Str := if t.k = "asked" then th ++ [("ask" : Str)] else if t.k = "set" then th ++ [("timer" : Str)] else match t.n with | none => th | some n => th.set n "gone"
def chk : List Tk → Nat → List Str → Bool → Option Nat
 | [], _, _, _ => none
 | t :: r, i, th, ov => if ov = true ∨ decide (t.k = "begin") ≠ decide (i = 0) then some i else if suits t th = true then chk r (i + 1) (enter t th) (isLast t) else some i
def splitA (acc : List (List Tk)) (t : Tk) : List (List Tk) := if isOut t = true then acc ++ [[t]] else acc.dropLast ++ [acc.getLastD [] ++ [t]]
def split (l : List Tk) : List (List Tk) := l.foldl splitA []
end Op
set_option pp.maxSteps 500
namespace Op
open PySem L2 TL PyProof.Rows
def outP : List (Str × Str) := [("begin", "w"), ("answer", "nw"), ("rang", "n"), ("signal", "ww")]
def cmdP : List (Str × Str) := [("asked", "w"), ("set", ""), ("dropped", "n"), ("noted", "w"), ("marked", "w"), ("ended", "w"), ("anew", "w")]
def digits : Str := "0123456789"
theorem wordS_len {z : Str} (h : isWordS z = true) : 1 ≤ z.length ∧ z.length ≤ 8 := by
 unfold isWordS at h
 exact of_decide_eq_true (Bool.and_eq_true_iff.mp h).1
theorem joinS_len (y : Str) (l : List Str) : (Txt.join y l).length ≤ (l.map (·.length)).sum + l.length * y.length := by
 rw [join_eq]
 exact StrLaws.join_length_le y l
def numLike (z : Str) : Bool := decide (1 ≤ z.length ∧ z.length ≤ 5) && (!(decide (z.cps.toList.headD 0 = 48) && decide (1 < z.length)) && z.cps.toList.all fun c => decide (c ∈ digits.cps.toList))
def numVal (z : Str) : Nat := NumText.digitsVal z.cps.toList
def partsV : List (Str × Nat) → Option (List V)
 | [] => some []
 | (w, c) :: r => if c = 110 ∧ numLike w = true then (partsV r).map (V.int (numVal w) :: ·) else if c = 119 ∧ isWordS w = true then (partsV r).map (V.str w :: ·) else none
def partV (p : Str × Nat) : Option V := if p.2 = 110 ∧ numLike p.1 = true then some (V.int (numVal p.1)) else if p.2 = 119 ∧ isWordS p.1 = true then some (V.str p.1) else none
theorem partsV_cons (p : Str × Nat) (r : List (Str × Nat)) : partsV (p :: r) = (match partV p with | none => none | some v => (partsV r).map (v :: ·)) := by
 obtain ⟨w, c⟩ := p
 unfold partV
 conv => lhs; unfold partsV
 by_cases h1 : c = 110 ∧ numLike w = true
 · rw [if_pos h1, if_pos h1]
 · rw [if_neg h1, if_neg h1]
   by_cases h2 : c = 119 ∧ isWordS w = true
   · rw [if_pos h2, if_pos h2]
   · rw [if_neg h2, if_neg h2]
theorem partsV_app : ∀ (l : List (Str × Nat)) {r : List (Str × Nat)} {xs : List V}, partsV l = some xs → partsV (l ++ r) = (partsV r).map (xs ++ ·)
 | [], r, xs, h => by
   obtain rfl := Option.some.inj h
   show partsV r = _
   cases partsV r <;> rfl
 | p :: l, r, xs, h => by
   rw [List.cons_append, partsV_cons]
   rw [partsV_cons] at h
   cases hp : partV p with
   | none => rw [hp] at h; cases h
   | some v =>
     rw [hp] at h
     dsimp only at h ⊢
     cases hl : partsV l with
     | none => rw [hl] at h; cases h
     | some ys =>
       rw [hl] at h
       obtain rfl := Option.some.inj h
       rw [partsV_app l hl, Option.map_map]
       cases partsV r <;> rfl
theorem partsV_one {p : Str × Nat} {v : V} (h : partV p = some v) : partsV [p] = some [v] := by
 rw [partsV_cons, h]
 rfl
theorem partsV_bad {l r : List (Str × Nat)} {p : Str × Nat} {xs : List V} (h : partsV l = some xs) (hp : partV p = none) : partsV (l ++ p :: r) = none := by
 rw [partsV_app l h, partsV_cons, hp]
 rfl
theorem digits_of {c : Nat} (h : c ∈ digits.cps.toList) : 48 ≤ c ∧ c ≤ 57 := by
 have : ∀ c ∈ digits.cps.toList, 48 ≤ c ∧ c ≤ 57 := by decide +kernel
 exact this c h
theorem numLike_int {z : Str} (h : numLike z = true) : intText? z = some ((numVal z : Nat) : Int) ∧ z.length ≤ 5 := by
 unfold numLike at h
 obtain ⟨h1, h2⟩ := Bool.and_eq_true_iff.mp h
 obtain ⟨h1, h5⟩ := of_decide_eq_true h1
 obtain ⟨_, h3⟩ := Bool.and_eq_true_iff.mp h2
 have hl : z.length = z.cps.toList.length := len_tl z
 refine ⟨PySem.intText_digits (x := z) (fun c hc => digits_of (of_decide_eq_true (List.all_eq_true.mp h3 c hc))) (fun e => ?_) (by omega), h5⟩
 rw [e, List.length_nil] at hl
 omega
theorem join_mem {y p : Str} : ∀ {ps : List Str}, p ∈ ps → p.length ≤ (Str.join y ps).length
 | [], h => (List.not_mem_nil h).elim
 | [q], h => by rw [List.mem_singleton.mp h]; exact Nat.le_refl _
 | a :: b :: r, h => by
   have e : Str.join y (a :: b :: r) = a ++ y ++ Str.join y (b :: r) := rfl
   rw [e, PySem.Str.length_append, PySem.Str.length_append]
   rcases List.mem_cons.mp h with rfl | h
   · omega
   · have := join_mem (y := y) h
     omega
theorem split_mem {x y p : Str} (h : p ∈ Txt.split x y) : p.length ≤ x.length := by
 have := join_mem (y := y) h
 rw [StrLaws.join_split] at this
 exact this
def wordsV (tab : List (Str × Str)) (ws : List Str) : Option (List V) :=
 match tab.lookup (ws.headD "") with
 | none => none
 | some sh => if ws.length ≠ sh.length + 1 then none else (partsV (ws.tail.zip sh.cps.toList)).map (V.str (ws.headD "") :: ·)
def tokV (line : Str) : Option (List V) :=
 if Txt.startswith line "  " = true then wordsV cmdP (Txt.split (cutS line (some 2) none) " ") else wordsV outP (Txt.split line " ")
theorem splitS_ne (x y : Str) : Txt.split x y ≠ [] := by
 unfold Txt.split
 split
 · exact List.cons_ne_nil _ _
 · split
   · exact List.cons_ne_nil _ _
   · unfold Builtin.Str.partsBetween
     cases Builtin.Str.occurrences x y 0 x.length (x.length + 1) with
     | nil => exact List.cons_ne_nil _ _
     | cons a r => exact List.cons_ne_nil _ _
end Op
set_option pp.maxSteps 500
namespace Op
open PySem L2 TL PyProof.Rows
def lead (z : Str) : Nat := ((tl z).takeWhile fun c => c == 32).length
theorem lead_le (z : Str) : lead z ≤ z.length := by
 rw [len_tl]
 exact (List.takeWhile_sublist _).length_le
theorem lstrip_lead (z : Str) : (z.length : Int) - ((Txt.lstripChars z " ").length : Int) = ((lead z : Nat) : Int) := by
 have hl := lead_le z
 have hg : ∀ c : Nat, (" " : Str).cps.contains c = (c == 32) := fun c => by
   show (#[32] : Array Nat).contains c = _
   by_cases h : c = 32
   · subst h; simp
   · rw [beq_eq_false_iff_ne.mpr h]
     have : ¬ c ∈ (#[32] : Array Nat) := by simpa using h
     exact Bool.eq_false_iff.mpr fun e => this (Array.contains_iff.mp e)
 have hg2 : (fun c : Nat => (" " : Str).cps.contains c) = fun c => c == 32 := funext hg
 have h1 : (Txt.lstripChars z " ").length = z.length - lead z := by
   have hlo : stripLo (" " : Str).cps.contains true z = lead z := by
     show ((tl z).takeWhile (" " : Str).cps.contains).length = _
     rw [show ((" " : Str).cps.contains) = fun c => c == 32 from hg2]
     rfl
   unfold Txt.lstripChars Txt.stripBy
   split
   · rename_i h
     unfold stripSame at h
     rw [hlo] at h
     have := (Bool.and_eq_true_iff.mp h).1
     have := eq_of_beq this
     omega
   · unfold stripped
     rw [hlo, show stripHi (" " : Str).cps.contains false z (lead z) = z.length from rfl, strSub_mk, len_tl]
     show (((tl z).drop (lead z)).take (z.length - lead z)).length = _
     rw [List.length_take, List.length_drop, ← len_tl]
     omega
 omega
def lineP (z : Str) : Option (Nat × List Str) :=
 if 12 < lead z / 2 ∨ lead z % 2 = 1 ∨ ("" : Str) ∈ Txt.split (cutS z (some (lead z : Int)) none) " " then none else some (lead z / 2, Txt.split (cutS z (some (lead z : Int)) none) " ")
def sizesP : List (Str × Int) := [("ask", 3), ("timer", 2), ("await", 3), ("drop", 2), ("take", 3), ("put", 3), ("leave", 1), ("end", 2), ("anew", 2), ("if", 3), ("loop", 1), ("part", 1), ("past", 2), ("gate", 2), ("both", 1)]
def headOk (ws : List Str) : Bool := if ws.headD "" = "first" ∨ ws.headD "" = "note" then decide (3 ≤ ws.length) else (sizesP.lookup (ws.headD "")).elim false fun n => decide ((ws.length : Int) = n)
def rowF (ws : List Str) : Bool := headOk ws && ws.tail.all isWordS
abbrev LE := Option Nat
def lbnd {α β : Type} (m : Except LE α) (f : α → Except LE β) : Except LE β := match m with
 | .error b => .error b
 | .ok a => f a
def GoL {α : Type} (m : Except LE α) (ok : α → Prop) (er : Nat → Prop) : Prop := match m with
 | .ok a => ok a
 | .error none => False
 | .error (some k) => er k
theorem GoL.seq {α β : Type} {m : Except LE α} {f : α → Except LE β} {ok : β → Prop} {er : Nat → Prop} (h : GoL (lbnd m f) ok er) : GoL m (fun a => GoL (f a) ok er) er := by
 cases m with
 | ok a => exact h
 | error b => cases b <;> exact h
theorem GoL.imp {α : Type} {m : Except LE α} {ok ok' : α → Prop} {er er' : Nat → Prop} (h : GoL m ok er) (h1 : ∀ a, m = .ok a → ok a → ok' a) (h2 : ∀ b, m = .error (some b) → er b → er' b) : GoL m ok' er' := by
 cases m with
 | ok a => exact h1 a rfl h
 | error b => cases b <;> first | exact h | exact h2 _ rfl h
def peekL (ls : List Str) (d : Nat) : Except LE (Int × List Str) := match ls[d]? with
 | none => .ok (-1, [""])
 | some l => match lineP l with
   | none => .error (some (d + 1))
   | some p => .ok ((p.1 : Int), p.2)
def expL (ls : List Str) (lv : Nat) (w : Str) (d : Nat) : Except LE Nat := lbnd (peekL ls d) fun (fd, ws) => if fd ≠ (lv : Int) ∨ ws ≠ [w] then .error (some (d + 1)) else .ok (d + 1)
mutual
def blockL (ls : List Str) : Nat → Nat → Nat → Except LE (List PyData × Nat)
 | 0, _, _ => .error none
 | f + 1, lv, d => lbnd (peekL ls d) fun (fd, ws) => if fd < (lv : Int) then .ok ([], d) else if fd > (lv : Int) ∨ rowF ws = false then .error (some (d + 1)) else
     lbnd (rowLn ls f lv ws (d + 1)) fun (r, d1) => lbnd (blockL ls f lv d1) fun (rs, d2) => .ok (r :: rs, d2)
def rowLn (ls : List Str) : Nat → Nat → List Str → Nat → Except LE (PyData × Nat)
 | 0, _, _, _ => .error none
 | f + 1, lv, ws, d =>
   if ws.headD "" = "first" then .ok (.tuple [.str "first", .tuple (ws.tail.dropLast.map .str), .str (ws.getLastD "")], d)
   else if ws.headD "" = "note" then .ok (.tuple [.str "note", .str (ws.getD 1 ""), .tuple ((ws.drop 2).map .str)], d)
   else if ws.headD "" = "if" ∨ ws.headD "" = "gate" then lbnd (blockL ls f (lv + 1) d) fun (a, d1) => lbnd (expL ls lv (if ws.headD "" = "if" then "else" else "old") d1) fun d2 => lbnd (blockL ls f (lv + 1) d2) fun (b, d3) => .ok (.tuple (ws.map .str ++ [.list a, .list b]), d3)
   else if ws.headD "" = "loop" ∨ ws.headD "" = "part" ∨ ws.headD "" = "past" then lbnd (blockL ls f (lv + 1) d) fun (a, d1) => .ok (.tuple (ws.map .str ++ [.list a]), d1)
   else if ws.headD "" = "both" then lbnd (sidesL ls f lv d) fun (bs, d1) => .ok (.tuple [.str "both", .tuple bs], d1)
   else .ok (.tuple (ws.map .str), d)
def sidesL (ls : List Str) : Nat → Nat → Nat → Except LE (List PyData × Nat)
 | 0, _, _ => .error none
 | f + 1, lv, d => lbnd (peekL ls d) fun (fd, _) => if fd = (lv : Int) + 1 then lbnd (expL ls (lv + 1) "side" d) fun d1 => lbnd (blockL ls f (lv + 2) d1) fun (b, d2) => lbnd (sidesL ls f lv d2) fun (bs, d3) => .ok (.list b :: bs, d3) else .ok ([], d)
end
end Op
namespace L2
open PySem PySem.Spec PyProof.Rows
def wManyA (K : PySem.W.Frag) (i : Nat) (Wout : WX) (D : Ends) : List (Value × (Addr → Value → Option Addr → TS)) → WX
 | [] => Wout
 | q :: r => wAs K q.1 i q.2 (wManyA K i Wout D r) D
inductive HdsA (X : Cx) (n : Str) : List ExceptHandler → List (Value × (Addr → Value → Option Addr → TS)) → Prop
 | nil : HdsA X n [] []
 | cons {x : Str} {c : Value} {ts : Addr → Value → Option Addr → TS} {b₀ : Stmt} {suite : List Stmt} {np pos' : Pos} {hds : List ExceptHandler} {l : List (Value × (Addr → Value → Option Addr → TS))} (hc : Names X x c)
     (hsu : ∀ (a : Addr) (oe : Obj) (cls : Value) (d : Option Addr) (pn : List (Addr × Obj)), Zc cls d oe → (∃ vs, oe.data = .fields vs) → PSs (X.suite a ((a, oe) :: pn)) (b₀ :: suite) (ts a cls d)) (r : HdsA X n hds l) :
     HdsA X n (.ExceptHandler (some (.Name x np)) (some n) (b₀ :: suite) pos' :: hds) ((c, ts) :: l)
theorem ps_try_manyA {X : Cx} {n : Str} {i : Nat} {body : List Stmt} {h₀ : ExceptHandler} {hds : List ExceptHandler} {l : List (Value × (Addr → Value → Option Addr → TS))} {pos : Pos} {tb : WX → TS} {Wout : WX} (hs : X.stack = X.env :: X.outer) (hf : X.env.frame = some X.env.locals) (hN : X.N.Nodup) (hi : X.N[i]? = some n) (hln : X.env.kindOf n = some .local) (tk : Takes X Wout)
   (hb : ∀ (W : WX) (pn : List (Addr × Obj)) (xe : Value → Shared → Prop), Takes (X.tr pn xe) W → PassesOwn (model X.prog X.w) X.A X.env xe → PSs (X.tr pn xe) body (tb W)) (hh : HdsA X n (h₀ :: hds) l) :
   PS X (.Try body (h₀ :: hds) [] [] pos) (fun D σ H => tb (wManyA X.K i Wout D l) D σ H) := by
 refine ⟨fun pins s σ H D I h => ?_⟩
 have ok := I.ok
 have hfr : X.A.frames = some (X.env :: X.outer) := by rw [ok.frames, hs]
 have hloc : Loc X.env.scope n := .inl hln
 refine wpAny_Try_except ?_
 have run := (hb (wManyA X.K i Wout D l) (X.pn ++ pins) (fun e s₁ => wpAny (model X.prog X.w) X.A (noteFrame e X.env) (fun _ s₂ => wpAny (model X.prog X.w) X.A (setFlight e none) (fun _ s₃ => wpAny (model X.prog X.w) X.A (handleBy e X.env (h₀ :: hds)) (SP X pins D) X.xe s₃) X.xe s₂) X.xe s₁) (fun u s' xx => ?_) PassesOwn.looking).run [] s σ H D (I.toTry _) h
 · refine wpAny_mono run (fun f s1 hsp => ?_) (fun e s1 he => he)
   cases f with
   | next => exact wpAny_execs_nil (let ⟨σ', H', J', q⟩ := hsp; ⟨σ', H', J'.ofTry ok, q⟩)
   | brk => exact (let ⟨σ', H', J', q⟩ := hsp; ⟨σ', H', J'.ofTry ok, q⟩)
   | cont => exact (let ⟨σ', H', J', q⟩ := hsp; ⟨σ', H', J'.ofTry ok, q⟩)
   | ret u => exact (let ⟨v, σ', H', J', r, q⟩ := hsp; ⟨v, σ', H', J'.ofTry ok, r, q⟩)
 obtain ⟨a, B, sI, pins', σ', H', cls, d, rfl, J', nb, up, sky, na, os, ag, w⟩ := xx
 have J : Inv X pins σ' H' sI := J'.ofTry ok
 have sky' : Sky B (X.env :: X.outer) a (Zc cls d) X.env.locals s'.heap := hs ▸ sky
 show wpAny (model X.prog X.w) X.A (noteFrame (.ref a) X.env) _ _ _
 refine Sky.land Zc.steady hfr hf sky' fun h3 fl3 up3 => ?_
 have J3 : Inv X pins σ' H' { s' with heap := h3 } := J.landed nb fl3.1 (up.trans up3) os ag
 obtain ⟨oe3, vs3, he3, hz3, hd3⟩ := fl3.there
 have nfr : a ∉ frs (X.env :: X.outer) := fun hm => by
   obtain ⟨_, o', e', hnf⟩ := fl3.2.2.1.mem hm
   rw [he3] at e'
   cases e'
   exact hnf _ hd3
 have nL : a ≠ X.env.locals := fun z => nfr (List.mem_filterMap.mpr ⟨X.env, List.mem_cons_self, by rw [hf, z]⟩)
 have nF : a ∉ X.fs := fun hm => let ⟨e, he, q⟩ := List.mem_filterMap.mp hm; nfr (List.mem_filterMap.mpr ⟨e, List.mem_cons_of_mem _ he, q⟩)
 have S3 := J3.suite he3 hd3 na nL nF
 have LT : PySem.W.Looks (model X.prog X.w) h3 (typeOf (.ref a)) cls := fun A Q E s k q => wpAny_typeOf_ref (k _ _ he3) (by rw [hz3.1]; exact q)
 suffices go : ∀ {hds' : List ExceptHandler} {l' : List (Value × (Addr → Value → Option Addr → TS))}, HdsA X n hds' l' → wManyA X.K i Wout D l' cls d σ' H' → wpAny (model X.prog X.w) X.A (handleBy (.ref a) X.env hds') (SP X pins D) X.xe { s' with heap := h3 } from go hh w
 intro hds' l' hk
 induction hk with
 | nil =>
   intro w
   refine wpAny_handleBy_nil ?_
   obtain ⟨_, _, _, oe, vs, T, oT, _, he, _, hd, h1, _⟩ := id fl3
   unfold PySem.passOn
   refine wpAny_bind (wpAny_field he hd h1 ?_)
   rw [if_neg (show ¬ ((Value.ref T == Value.none) = true) from by simp)]
   have fin : wpAny (model X.prog X.w) X.A (setFlight (.ref a) X.env.frame) (fun _ s4 => wpAny (model X.prog X.w) X.A (throw (.ref a) : Sem Flow) (SP X pins D) X.xe s4) X.xe { s' with heap := h3 } := by
     rw [hf]
     exact HandSPX.setFlight_upZ fl3 fun h4 hh4 up4 => wpAny_throw (tk _ _ ⟨a, B, sI, pins, σ', H', cls, d, rfl, J, nb, (up.trans up3).trans up4, .inr (.inr (hs ▸ hh4)), na, os, ag, w⟩)
   first
     | exact wpAny_bind (wpAny_pure (wpAny_bind fin))
     | exact wpAny_bind fin
 | @cons x c ts b₀ suite np pos' hds2 l2 hc hsu r ih =>
   intro w
   obtain ⟨b, hb1, hyes, hno⟩ := w
   refine wpAny_handleBy_cons (codeAny_handlers_test ?_) (by intro q; cases q)
   have LM := PySem.W.exm_one (M := model X.prog X.w) (J3.kIn) LT hb1
   have test : ∀ {Q : Value → Shared → Prop} {E : Value → Shared → Prop}, Q c { s' with heap := h3 } → wpAny (model X.prog X.w) (X.A.mark (some (.ref a))) (eval (.Name x np) X.env) Q E { s' with heap := h3 } := fun {Q E} q => by
     obtain ⟨hg, hdbg, hm⟩ := hc
     rcases hm with hm | ⟨hm, hv, hnn⟩
     · exact ld_glob (X := X.suite a ((a, oe3) :: (X.pn ++ pins))) S3 hg hm q hdbg
     · exact ld_blt (X := X.suite a ((a, oe3) :: (X.pn ++ pins))) S3 hg hm hv q hnn hdbg
   refine test (LM.here ?_)
   cases b with
   | false =>
     show wpAny _ X.A (handleBy (.ref a) X.env hds2) _ _ _
     exact ih (hno rfl)
   | true =>
     refine codeAny_handlers_suite_as (HandSPX.lands_againZ fl3 fun h4 fl4 up4 => ?_)
     have J4 : Inv X pins σ' H' { s' with heap := h4 } := J.landed nb fl4.1 ((up.trans up3).trans up4) os ag
     obtain ⟨oe4, vs4, he4, hz4, hd4⟩ := fl4.there
     have S4 := J4.suite he4 hd4 na nL nF
     refine store_ok (X := X.suite a ((a, oe4) :: (X.pn ++ pins))) (v := .ref a) S4 hN hi hloc rfl (fun s5 S5 => ?_) (.inr hln)
     refine wpAny_mono ((hsu a oe4 cls d (X.pn ++ pins) hz4 ⟨_, hd4⟩).run [] s5 _ H' _ S5 (hyes rfl a na)) (fun f s6 hsp => ?_) (fun _ _ z => False.elim z)
     have fin : ∀ {σ6 : St} {H6 : Hp} {Q : Shared → Prop}, Inv (X.suite a ((a, oe4) :: (X.pn ++ pins))) [] σ6 H6 s6 → (∀ s7, Inv X pins (σ6.set i none) H6 s7 → Q s7) → wpAny (model X.prog X.w) X.A (do bindName X.env n .none; unbindBehindTheSuite X.env n pos') (fun _ s7 => Q s7) X.xe s6 := fun S6 hq => gone_ok (S6.unsuite ok) hN hi hln hq
     cases f with
     | next => exact (let ⟨σ6, H6, S6, q6⟩ := hsp; fin S6 fun s7 J7 => ⟨_, _, J7, q6⟩)
     | brk => exact (let ⟨σ6, H6, S6, q6⟩ := hsp; fin S6 fun s7 J7 => ⟨_, _, J7, q6⟩)
     | cont => exact (let ⟨σ6, H6, S6, q6⟩ := hsp; fin S6 fun s7 J7 => ⟨_, _, J7, q6⟩)
     | ret u => exact (let ⟨v6, σ6, H6, S6, r6, q6⟩ := hsp; fin S6 fun s7 J7 => ⟨_, _, _, J7, r6, q6⟩)
end L2
set_option pp.maxSteps 900
namespace Op
open PySem L2 PyProof.Rows
def sOut : List Str := ["begin", "answer", "rang", "signal"]
def sNum : List Str := ["answer", "rang", "dropped"]
def sLast : List Str := ["ended", "anew"]
structure TxtH (P : Program) (w : World) (K : PySem.W.Frag) (mg : Str → Option Value) (pF pO pN pL CH CA : Addr) : Prop extends Txt mg where
 g_FORMS : mg "FORMS" = some (.ref pF)
 w_FORMS : WTab K w pF (forms.map fun p => (p.1, .str p.2))
 g_OUTER : mg "OUTER" = some (.ref pO)
 g_NUMBERED : mg "NUMBERED" = some (.ref pN)
 g_LAST : mg "LAST" = some (.ref pL)
 s_OUTER : ∀ H, SqT K H pO (sOut.map V.str)
 s_NUMBERED : ∀ H, SqT K H pN (sNum.map V.str)
 s_LAST : ∀ H, SqT K H pL (sLast.map V.str)
 g_InvalidHistory : mg "InvalidHistory" = some (.ref CH)
 k_InvalidHistory : PySem.W.keepIn K (.ref CH) = true
 mk_InvalidHistory : XMk P w K CH 1 [] (fun vs _ => [("at", vs.headD .non)])
 r_InvalidHistory : ∀ (M : Model) (h : Heap), K.In h → PySem.W.Looks M h (isSubtype (.ref CH) (.type "BaseException")) true ∧ PySem.W.Looks M h (typeOf (.ref CH)) (.type "type")
 g_InvalidArgument : mg "InvalidArgument" = some (.ref CA)
 k_InvalidArgument : PySem.W.keepIn K (.ref CA) = true
 mk_InvalidArgument : XMk P w K CA 1 [] (fun vs _ => [("part", vs.headD .non)])
 r_InvalidArgument : ∀ (M : Model) (h : Heap), K.In h → PySem.W.Looks M h (isSubtype (.ref CA) (.type "BaseException")) true ∧ PySem.W.Looks M h (typeOf (.ref CA)) (.type "type")
theorem dp_strsV {K : PySem.W.Frag} {H : Hp} : ∀ {zs : List Str} {vs : List V}, DpAll K H vs (zs.map PyData.str) → vs = zs.map V.str
 | [], _, .nil => rfl
 | z :: r, _, .cons (.str _) h => by rw [dp_strsV h]; rfl
theorem strs_dp {K : PySem.W.Frag} {H : Hp} : ∀ zs : List Str, DpAll K H (zs.map V.str) (zs.map PyData.str)
 | [] => .nil
 | z :: r => .cons (.str z) (strs_dp r)
theorem tk_at {K : PySem.W.Frag} {H : Hp} {v : V} {t : Tk} (h : Dp K H v t.d) : ∃ a, v = .ref a ∧ SqT K H a t.vs := by
 obtain ⟨k, n, ws⟩ := t
 unfold Tk.d Tk.parts at h
 cases h with
 | @tup a xs _ hs ha =>
 refine ⟨a, rfl, ?_⟩
 cases ha with
 | cons h1 h2 =>
 cases h1 with
 | str k =>
 cases n with
 | none =>
   have := dp_strsV h2
   subst this
   exact hs
 | some i =>
   cases h2 with
   | cons h3 h4 =>
   cases h3 with
   | int j =>
   have := dp_strsV h4
   subst this
   exact hs
theorem tk_dp {K : PySem.W.Frag} {H : Hp} {a : Addr} {t : Tk} (h : SqT K H a t.vs) : Dp K H (.ref a) t.d := by
 obtain ⟨k, n, ws⟩ := t
 refine .tup h (.cons (.str k) ?_)
 cases n with
 | none => exact strs_dp ws
 | some i => exact .cons (.int i) (strs_dp ws)
theorem inV_st (z : Str) : ∀ zs : List Str, inV (.str z) (zs.map V.str) = decide (z ∈ zs)
 | [] => rfl
 | x :: r => by
   have ih := inV_st z r
   unfold inV at ih ⊢
   rw [List.map_cons, List.any_cons, ih]
   by_cases e : x = z
   · subst e
     rw [show eqV (.str x) (.str x) = true by simp [eqV], decide_eq_true List.mem_cons_self]
     rfl
   · rw [show eqV (.str x) (.str z) = false by simp [eqV, e], Bool.false_or]
     exact decide_eq_decide.mpr ⟨List.mem_cons_of_mem _, fun h => by
       rcases List.mem_cons.mp h with h | h
       · exact absurd h.symm e
       · exact h⟩
theorem flat_strs (zs : List Str) : (zs.map V.str).all flatV = true := List.all_eq_true.mpr fun v hv => by
 obtain ⟨z, _, rfl⟩ := List.mem_map.mp hv
 rfl
section
variable {P : Program} {w : World} {K : PySem.W.Frag} {mg : Str → Option Value} {base : Heap} {pF pO pN pL CH CA : Addr}
def spIsOut (K : PySem.W.Frag) : Sp := fun vs H Q _ => ∃ (v : V) (t : Tk), vs = [v] ∧ Dp K H v t.d ∧ Q (.bl (isOut t)) H
theorem sc_is_outer : FnScope ["token"] ["token"] (defScope s_is_outer) := ⟨rfl, rfl, rfl, by decide +kernel, rfl, by decide +kernel, by decide +kernel⟩
theorem ok_is_outer {f : Addr} {fd : FuncData} (F : Fun K "is_outer" "is_outer" s_is_outer f fd) (T : TxtH P w K mg pF pO pN pL CH CA) : FnOk P w K mg base CX0 1 f fd ["token"] (spIsOut K) := by
 refine F.ok sc_is_outer (fun vs H Q E h => ?_) (fun cdv A outer s H vs Q E hr h => ?_)
 · obtain ⟨v, t, rfl, _⟩ := h
   rfl
 · obtain ⟨v, t, rfl, hd, k⟩ := h
   obtain ⟨a, rfl, hq⟩ := tk_at hd
   refine ⟨_, (pss_one (ps_ret (pe_cmpR op_in_seq (pe_ix ix_tup (pv 0) pe_int (fun _ _ => rfl)) (pe_gref rfl T.g_OUTER) (by rfl)))), ?_⟩
   refine ⟨_, rfl, a, _, 0, _, rfl, rfl, hq, atI_zero _ _, pO, _, rfl, .inr (T.s_OUTER _), rfl, flat_strs _, ?_⟩
   rw [inV_st]
   exact k
def spSuits (K : PySem.W.Frag) : Sp := fun vs H Q _ => ∃ (v : V) (t : Tk) (l : Addr) (th : List Str), vs = [v, .ref l] ∧ Dp K H v t.d ∧ Okt t ∧ H l = some (.lst (th.map V.str)) ∧ th.length ≤ 100000 ∧ Q (.bl (suits t th)) H
theorem sc_suits_things : FnScope ["token", "things", "thing"] ["token", "things"] (defScope s_suits_things) := ⟨rfl, rfl, rfl, by decide +kernel, rfl, by decide +kernel, by decide +kernel⟩
theorem ok_suits {f : Addr} {fd : FuncData} (F : Fun K "suits_things" "suits_things" s_suits_things f fd) (T : TxtH P w K mg pF pO pN pL CH CA) : FnOk P w K mg base CX0 1 f fd ["token", "things"] (spSuits K) := by
 refine F.ok sc_suits_things (fun vs H Q E h => ?_) (fun cdv A outer s H vs Q E hr h => ?_)
 · obtain ⟨v, t, l, th, rfl, _⟩ := h
   rfl
 · obtain ⟨v, t, l, th, rfl, hd, ok, hl, htl, k⟩ := h
   obtain ⟨a, rfl, hq⟩ := tk_at hd
   have hn := num_iff ok.c
   refine ⟨_, (pss_cons (ps_if (pt_cmpR op_notIn_seq (pe_ix ix_tup (pv 0) pe_int (fun _ _ => rfl)) (pe_gref rfl T.g_NUMBERED) (by rfl)) (pss_one (ps_ret pe_bl)) pss_nil)
     (pss_cons (ps_if (pt_cmpR op_ge (pe_ix ix_tup (pv 0) pe_int (fun _ _ => rfl)) (pe_callB call_len_seq (by rfl) T.b_len (by decide +kernel) (pa_cons (pv 1) pa_nil)) (nomark _)) (pss_one (ps_ret pe_bl)) pss_nil)
     (pss_cons (ps_set (i := 2) sc_suits_things.nd rfl (.inl rfl) (pe_ix ix_list (pv 1) (pe_ix ix_tup (pv 0) pe_int (fun _ _ => rfl)) (fun _ _ => rfl)))
     (pss_cons (ps_if (pt_cmpR op_eq (pe_ix ix_tup (pv 0) pe_int (fun _ _ => rfl)) pe_str (nomark _)) (pss_one (ps_ret (pe_cmpR op_eq (pv 2) pe_str (nomark _)))) pss_nil)
     (pss_cons (ps_if (pt_cmpR op_eq (pe_ix ix_tup (pv 0) pe_int (fun _ _ => rfl)) pe_str (nomark _)) (pss_one (ps_ret (pe_cmpR op_eq (pv 2) pe_str (nomark _)))) pss_nil)
     (pss_one (ps_ret (pe_cmpR op_ne (pv 2) pe_str (nomark _))))))))), ?_⟩
   refine ⟨_, rfl, a, _, 0, _, rfl, rfl, hq, atI_zero _ _, pN, _, rfl, .inr (T.s_NUMBERED _), rfl, flat_strs _, _, rfl, ?_⟩
   rw [inV_st, show decide (t.k ∈ sNum) = t.n.isSome from hn]
   cases hc : t.n with
   | none =>
     refine ifT rfl ?_
     have : suits t th = true := by unfold suits; rw [hc]
     rw [this] at k
     exact k
   | some n =>
     refine ifF rfl ?_
     have hq1 : SqT K H a (.str t.k :: .int (n : Int) :: t.ws.map V.str) := by
       have : t.vs = .str t.k :: .int (n : Int) :: t.ws.map V.str := by unfold Tk.vs; rw [hc]; rfl
       rw [← this]
       exact hq
     refine ⟨_, rfl, a, _, 1, _, rfl, rfl, hq1, atI_one _ _ _, _, rfl, l, _, rfl, .inl (.inl (.inl hl)), _, _, rfl, rfl, _, rfl, ?_⟩
     rw [List.length_map]
     by_cases hnl : n < th.length
     · have hx : th[n]? = some th[n] := List.getElem?_eq_getElem hnl
       have e : suits t th = thingFits t.k th[n] := by unfold suits; rw [hc]; dsimp only; rw [hx]
       rw [e] at k
       generalize th[n] = x at hx k
       unfold thingFits at k
       refine ifF (decide_eq_false (by omega)) ?_
       refine ⟨_, rfl, _, rfl, a, _, 1, _, rfl, rfl, hq1, atI_one _ _ _, l, _, _, .str x, rfl, rfl, .inl (.inl hl), atI_nat (by rw [List.getElem?_map, hx]; rfl), ?_⟩
       refine ⟨_, rfl, a, _, 0, _, rfl, rfl, hq1, atI_zero _ _, rfl, _, rfl, ?_⟩
       rw [dec_strV]
       by_cases e1 : t.k = "answer"
       · rw [if_pos e1] at k
         refine ifT (decide_eq_true e1) ⟨_, rfl, rfl, ?_⟩
         rw [dec_strV]
         exact k
       · rw [if_neg e1] at k
         refine ifF (decide_eq_false e1) ⟨_, rfl, a, _, 0, _, rfl, rfl, hq1, atI_zero _ _, rfl, _, rfl, ?_⟩
         rw [dec_strV]
         by_cases e2 : t.k = "rang"
         · rw [if_pos e2] at k
           refine ifT (decide_eq_true e2) ⟨_, rfl, rfl, ?_⟩
           rw [dec_strV]
           exact k
         · rw [if_neg e2] at k
           refine ifF (decide_eq_false e2) ⟨_, rfl, rfl, ?_⟩
           rw [dec_strV]
           exact k
     · have hx : th[n]? = none := List.getElem?_eq_none (by omega)
       have e : suits t th = false := by unfold suits; rw [hc]; dsimp only; rw [hx]
       rw [e] at k
       exact ifT (decide_eq_true (by omega)) k
theorem numQ {K : PySem.W.Frag} {H : Hp} {a : Addr} {t : Tk} {n : Nat} (h : SqT K H a t.vs) (hc : t.n = some n) : SqT K H a (.str t.k :: .int (n : Int) :: t.ws.map V.str) := by
 have : t.vs = .str t.k :: .int (n : Int) :: t.ws.map V.str := by unfold Tk.vs; rw [hc]; rfl
 rw [← this]
 exact h
def spEnter (K : PySem.W.Frag) : Sp := fun vs H Q _ => ∃ (v : V) (t : Tk) (l : Addr) (th : List Str), vs = [v, .ref l] ∧ Dp K H v t.d ∧ Okt t ∧ H l = some (.lst (th.map V.str)) ∧ th.length < 100000 ∧ (∀ n, t.n = some n → n < th.length) ∧ Q .non (upd H l (.lst ((enter t th).map V.str)))
theorem sc_enter_token : FnScope ["token", "things"] ["token", "things"] (defScope s_enter_token) := ⟨rfl, rfl, rfl, by decide +kernel, rfl, by decide +kernel, by decide +kernel⟩
theorem ok_enter {f : Addr} {fd : FuncData} (F : Fun K "enter_token" "enter_token" s_enter_token f fd) (T : TxtH P w K mg pF pO pN pL CH CA) : FnOk P w K mg base CX0 1 f fd ["token", "things"] (spEnter K) := by
 refine F.ok sc_enter_token (fun vs H Q E h => ?_) (fun cdv A outer s H vs Q E hr h => ?_)
 · obtain ⟨v, t, l, th, rfl, _⟩ := h
   rfl
 · obtain ⟨v, t, l, th, rfl, hd, ok, hl, htl, hin, k⟩ := h
   obtain ⟨a, rfl, hq⟩ := tk_at hd
   have hn := num_iff ok.c
   have same : ∀ zs : List Str, zs = th → upd H l (.lst (zs.map V.str)) = H := fun zs e => by
     rw [e]
     funext b
     by_cases q : b = l
     · rw [q, upd_same, hl]
     · rw [L2.upd_ne q]
   unfold enter at k
   refine ⟨_, (pss_one (ps_if (pt_cmpR op_eq (pe_ix ix_tup (pv 0) pe_int (fun _ _ => rfl)) pe_str (nomark _)) (pss_one (ps_expr (pe_bm PySem.F.plainAttrs_list PySem.F.slot_list_append PySem.F.type_list_append mt_append (pv 1) (pa_cons pe_str pa_nil)))) (pss_one (ps_if (pt_cmpR op_eq (pe_ix ix_tup (pv 0) pe_int (fun _ _ => rfl)) pe_str (nomark _)) (pss_one (ps_expr (pe_bm PySem.F.plainAttrs_list PySem.F.slot_list_append PySem.F.type_list_append mt_append (pv 1) (pa_cons pe_str pa_nil)))) (pss_one (ps_if (pt_cmpR op_in_seq (pe_ix ix_tup (pv 0) pe_int (fun _ _ => rfl)) (pe_gref rfl T.g_NUMBERED) (by rfl)) (pss_one (ps_asg pe_str (pg_sub (pv 1) (pe_ix ix_tup (pv 0) pe_int (fun _ _ => rfl)) set_list))) pss_nil)))))), ?_⟩
   refine ⟨_, rfl, a, _, 0, _, rfl, rfl, hq, atI_zero _ _, rfl, _, rfl, ?_⟩
   rw [dec_strV]
   by_cases e1 : t.k = "asked"
   · rw [if_pos e1, List.map_append] at k
     exact ifT (decide_eq_true e1) ⟨_, rfl, .inl ⟨rfl, _, .inl (.inl hl)⟩, l, _, _, rfl, rfl, hl, lt_sz (by rw [List.length_map]; exact htl), k⟩
   rw [if_neg e1] at k
   refine ifF (decide_eq_false e1) ⟨_, rfl, a, _, 0, _, rfl, rfl, hq, atI_zero _ _, rfl, _, rfl, ?_⟩
   rw [dec_strV]
   by_cases e2 : t.k = "set"
   · rw [if_pos e2, List.map_append] at k
     exact ifT (decide_eq_true e2) ⟨_, rfl, .inl ⟨rfl, _, .inl (.inl hl)⟩, l, _, _, rfl, rfl, hl, lt_sz (by rw [List.length_map]; exact htl), k⟩
   rw [if_neg e2] at k
   refine ifF (decide_eq_false e2) ⟨_, rfl, a, _, 0, _, rfl, rfl, hq, atI_zero _ _, pN, _, rfl, .inr (T.s_NUMBERED _), rfl, flat_strs _, _, rfl, ?_⟩
   rw [inV_st, show decide (t.k ∈ sNum) = t.n.isSome from hn]
   cases hc : t.n with
   | none =>
     rw [hc, same _ rfl] at k
     exact ifF rfl k
   | some n =>
     rw [hc] at k
     refine ifT rfl ⟨_, rfl, _, rfl, a, _, 1, _, rfl, rfl, numQ hq hc, atI_one _ _ _, l, _, (n : Int), n, rfl, rfl, hl, ixN_nat (by rw [List.length_map]; exact hin n hc), ?_⟩
     rw [List.map_set] at k
     exact k
end
end Op
set_option pp.maxSteps 500
namespace Op
open PySem L2 PyProof.Rows
theorem forms_look (x : Str) : (forms.map fun p => (p.1, V.str p.2)).lookup x = (forms.lookup x).map V.str := by
 generalize forms = l
 induction l with
 | nil => rfl
 | cons p r ih =>
   obtain ⟨a, b⟩ := p
   simp only [List.map_cons, List.lookup_cons]
   cases x == a with
   | true => rfl
   | false => exact ih
theorem cut1T (v : V) (r : List V) : cutV (v :: r) (some 1) none = r := by
 unfold cutV
 rw [HT.sIx_none, show (1 : Int) = ((1 : Nat) : Int) from rfl, HT.sIx_nat, List.length_cons, show min 1 (r.length + 1) = 1 by omega]
 show r.take (r.length + 1 - 1) = r
 rw [List.take_of_length_le (by omega)]
theorem cut1nT (v : V) (r : List V) : ¬ (HT.sIx (v :: r).length 0 (some 1) = 0 ∧ HT.sIx (v :: r).length (v :: r).length none = (v :: r).length) := by
 rw [show (1 : Int) = ((1 : Nat) : Int) from rfl, HT.sIx_nat, List.length_cons]
 omega
theorem forms_ok {k f : Str} (h : forms.lookup k = some f) : f.length ≤ 4 ∧ ∀ c ∈ f.cps.toList, c = 119 ∨ c = 110 := by
 have key : ∀ (l : List (Str × Str)) (kind sh : Str), l.all (fun p => decide (p.2.length ≤ 4) && p.2.cps.toList.all fun c => decide (c = 119 ∨ c = 110)) = true → l.lookup kind = some sh → sh.length ≤ 4 ∧ ∀ c ∈ sh.cps.toList, c = 119 ∨ c = 110 := by
   intro l
   induction l with
   | nil => intro kind sh _ h; cases h
   | cons p r ih =>
     intro kind sh ha h
     obtain ⟨a, b⟩ := p
     obtain ⟨h1, h2⟩ := Bool.and_eq_true_iff.mp ha
     rw [List.lookup_cons] at h
     cases q : kind == a with
     | true =>
       rw [q] at h
       obtain rfl := Option.some.inj h
       obtain ⟨h3, h4⟩ := Bool.and_eq_true_iff.mp h1
       exact ⟨of_decide_eq_true h3, fun c hc => of_decide_eq_true (List.all_eq_true.mp h4 c hc)⟩
     | false =>
       rw [q] at h
       exact ih kind sh h2 h
 exact key forms k f (by decide +kernel) h
def Short (d : PyData) : Prop := ∀ k ps, d = .tuple (k :: ps) → ∀ x, PyData.str x ∈ ps → x.length ≤ 100000
theorem parts_of : ∀ {cs : List Nat} {ds : List PyData}, cs.length = ds.length → (∀ c ∈ cs, c = 119 ∨ c = 110) → (cs.zip ds).all (fun p => codeFits p.1 p.2) = true → ∀ (nw : cs = [119] ∨ cs = [110, 119] ∨ cs = [110] ∨ cs = [119, 119] ∨ cs = []), ∃ (n : Option Nat) (ws : List Str), ds = (n.toList.map fun n : Nat => PyData.int (n : Int)) ++ ws.map .str ∧ cs = (n.toList.map fun _ => 110) ++ ws.map (fun _ => 119) ∧ ∀ w ∈ ws, isWordS w = true := by
 have word : ∀ d, codeFits 119 d = true → ∃ w, d = .str w ∧ isWordS w = true := fun d h => by
   unfold codeFits at h
   rw [if_pos rfl] at h
   cases d with
   | str w => exact ⟨w, rfl, h⟩
   | _ => cases h
 have num : ∀ d, codeFits 110 d = true → ∃ n : Nat, d = .int (n : Int) := fun d h => by
   unfold codeFits at h
   rw [if_neg (by decide)] at h
   cases d with
   | int i => exact ⟨i.toNat, by have := of_decide_eq_true h; congr 1; omega⟩
   | _ => cases h
 intro cs ds hl _ ha nw
 rcases nw with rfl | rfl | rfl | rfl | rfl
 · obtain ⟨d, rfl⟩ := List.length_eq_one_iff.mp hl.symm
   simp only [List.zip_cons_cons, List.zip_nil_left, List.all_cons, List.all_nil, Bool.and_true] at ha
   obtain ⟨w, rfl, hw⟩ := word d ha
   exact ⟨none, [w], rfl, rfl, fun x hx => by rw [List.mem_singleton.mp hx]; exact hw⟩
 · match ds, hl with
   | [d, e], _ =>
   simp only [List.zip_cons_cons, List.zip_nil_left, List.all_cons, List.all_nil, Bool.and_true, Bool.and_eq_true] at ha
   obtain ⟨n, rfl⟩ := num d ha.1
   obtain ⟨w, rfl, hw⟩ := word e ha.2
   exact ⟨some n, [w], rfl, rfl, fun x hx => by rw [List.mem_singleton.mp hx]; exact hw⟩
 · obtain ⟨d, rfl⟩ := List.length_eq_one_iff.mp hl.symm
   simp only [List.zip_cons_cons, List.zip_nil_left, List.all_cons, List.all_nil, Bool.and_true] at ha
   obtain ⟨n, rfl⟩ := num d ha
   exact ⟨some n, [], rfl, rfl, fun x hx => (List.not_mem_nil hx).elim⟩
 · match ds, hl with
   | [d, e], _ =>
   simp only [List.zip_cons_cons, List.zip_nil_left, List.all_cons, List.all_nil, Bool.and_true, Bool.and_eq_true] at ha
   obtain ⟨v, rfl, hv⟩ := word d ha.1
   obtain ⟨w, rfl, hw⟩ := word e ha.2
   refine ⟨none, [v, w], rfl, rfl, fun x hx => ?_⟩
   rcases List.mem_cons.mp hx with rfl | hx
   · exact hv
   · rw [List.mem_singleton.mp hx]; exact hw
 · obtain rfl : ds = [] := List.length_eq_zero_iff.mp hl.symm
   exact ⟨none, [], rfl, rfl, fun x hx => (List.not_mem_nil hx).elim⟩
theorem sig_forms {k f : Str} (h : forms.lookup k = some f) : f.cps.toList = [119] ∨ f.cps.toList = [110, 119] ∨ f.cps.toList = [110] ∨ f.cps.toList = [119, 119] ∨ f.cps.toList = [] := by
 have hm := look_mem h
 have key : forms.all (fun p => decide (p.2.cps.toList = [119] ∨ p.2.cps.toList = [110, 119] ∨ p.2.cps.toList = [110] ∨ p.2.cps.toList = [119, 119] ∨ p.2.cps.toList = [])) = true := by decide +kernel
 exact of_decide_eq_true (List.all_eq_true.mp key _ hm)
theorem hform {k f : Str} {parts : List PyData} (h : forms.lookup k = some f) (hl : parts.length = f.length) (ha : (f.cps.toList.zip parts).all (fun p => codeFits p.1 p.2) = true) : hasForm (.tuple (.str k :: parts)) = true := by
 unfold hasForm
 dsimp only
 rw [h]
 dsimp only
 rw [decide_eq_true hl, ha]
 rfl
theorem fit_w {w : Str} (h : isWordS w = true) : codeFits 119 (.str w) = true := by
 unfold codeFits
 rw [if_pos rfl]
 exact h
theorem fit_n (n : Nat) : codeFits 110 (.int (n : Int)) = true := by
 unfold codeFits
 rw [if_neg (by decide)]
 exact decide_eq_true (by omega)
theorem hform_w {k w : Str} (h : forms.lookup k = some "w") (hw : isWordS w = true) : hasForm (Tk.d ⟨k, none, [w]⟩) = true :=
 hform h rfl (by show (codeFits 119 (.str w) && true) = true; rw [fit_w hw]; rfl)
theorem hform_n {k : Str} {n : Nat} (h : forms.lookup k = some "n") : hasForm (Tk.d ⟨k, some n, []⟩) = true :=
 hform h rfl (by show (codeFits 110 (.int (n : Int)) && true) = true; rw [fit_n]; rfl)
theorem hasForm_iff (d : PyData) : hasForm d = true ↔ ∃ t, Okt t ∧ d = t.d := by
 constructor
 · intro h
   unfold hasForm at h
   split at h
   · rename_i k parts
     split at h
     · cases h
     · rename_i f hf
       obtain ⟨h1, h2⟩ := Bool.and_eq_true_iff.mp h
       have h1 := of_decide_eq_true h1
       obtain ⟨n, ws, h3, h4, h5⟩ := parts_of (cs := f.cps.toList) (ds := parts) (h1.symm) (forms_ok hf).2 h2 (sig_forms hf)
       exact ⟨⟨k, n, ws⟩, ⟨f, hf, h4, h5⟩, by unfold Tk.d Tk.parts; rw [← h3]⟩
   · cases h
 · rintro ⟨t, ok, rfl⟩
   cases ok.c with
   | begin hw => exact hform_w (by decide +kernel) hw
   | answer hw => exact hform (show forms.lookup ("answer" : Str) = some ("nw" : Str) by decide +kernel) rfl (by show (codeFits 110 _ && (codeFits 119 _ && true)) = true; rw [fit_n, fit_w hw]; rfl)
   | rang => exact hform_n (by decide +kernel)
   | signal ha hb => exact hform (show forms.lookup ("signal" : Str) = some ("ww" : Str) by decide +kernel) rfl (by show (codeFits 119 _ && (codeFits 119 _ && true)) = true; rw [fit_w ha, fit_w hb]; rfl)
   | asked hw => exact hform_w (by decide +kernel) hw
   | set => exact hform (show forms.lookup ("set" : Str) = some ("" : Str) by decide +kernel) rfl rfl
   | dropped => exact hform_n (by decide +kernel)
   | noted hw => exact hform_w (by decide +kernel) hw
   | marked hw => exact hform_w (by decide +kernel) hw
   | ended hw => exact hform_w (by decide +kernel) hw
   | anew hw => exact hform_w (by decide +kernel) hw
section
variable {P : Program} {w : World} {K : PySem.W.Frag} {mg : Str → Option Value} {base : Heap} {pF pO pN pL CH CA : Addr}
def spForm (K : PySem.W.Frag) : Sp := fun vs H Q _ => ∃ (v : V) (d : PyData), vs = [v] ∧ Dp K H v d ∧ Short d ∧ ∀ H', Same H H' → Q (.bl (hasForm d)) H'
theorem sc_has_form : FnScope ["token", "code", "part"] ["token"] (defScope s_has_form) := ⟨rfl, rfl, rfl, by decide +kernel, rfl, by decide +kernel, by decide +kernel⟩
theorem ok_has_form {f : Addr} {fd : FuncData} (F : Fun K "has_form" "has_form" s_has_form f fd) (T : TxtH P w K mg pF pO pN pL CH CA) (c_is_word : Cal P w K mg base CX0 1 "is_word" ["value"] (spWord K)) (c_is_integer : Cal P w K mg base CX0 1 "is_integer" ["value"] (spInt K)) : FnOk P w K mg base CX0 2 f fd ["token"] (spForm K) := by
 refine F.ok sc_has_form (fun vs H Q E h => ?_) (fun cdv A outer s H vs Q E hr h => ?_)
 · obtain ⟨v, d, rfl, _⟩ := h
   rfl
 · obtain ⟨v, d, rfl, hd, hsh, k⟩ := h
   refine ⟨_, (pss_cons (ps_if (PW.pt (pw_or (pt_not (pt_val (pe_callB call_isi (by rfl) T.b_isinstance (by decide +kernel) (pa_cons (pv 0) (pa_cons (pe_bltn (v := .ty "tuple") (by rfl) T.b_tuple (by decide +kernel) rfl) pa_nil))))) (pw_or (pt_cmpR op_eq (pe_callB call_len_seq (by rfl) T.b_len (by decide +kernel) (pa_cons (pv 0) pa_nil)) pe_int (nomark _)) (pw_or1 (pt_not (pt_val (pe_callB call_isi (by rfl) T.b_isinstance (by decide +kernel) (pa_cons (pe_ix ix_tup (pv 0) pe_int (fun _ _ => rfl)) (pa_cons (pe_bltn (v := .ty "str") (by rfl) T.b_str (by decide +kernel) rfl) pa_nil))))))))) (pss_one (ps_ret pe_bl)) pss_nil)
     (pss_cons (ps_if (PW.pt (pw_or (pt_cmpR op_notIn_wtab (pe_ix ix_tup (pv 0) pe_int (fun _ _ => rfl)) (pe_gref rfl T.g_FORMS) (by rfl)) (pw_or1 (pt_cmpR op_ne (pe_callB call_len_seq (by rfl) T.b_len (by decide +kernel) (pa_cons (pv 0) pa_nil)) (pe_op op_add pe_int (pe_callB call_len_str (by rfl) T.b_len (by decide +kernel) (pa_cons (pe_ix ix_wtab (pe_gref rfl T.g_FORMS) (pe_ix ix_tup (pv 0) pe_int (fun _ _ => rfl)) (fun _ _ => rfl)) pa_nil))) (nomark _))))) (pss_one (ps_ret pe_bl)) pss_nil)
     (pss_cons (ps_for PassesOwn.never rfl (pi_zipS (by rfl) T.b_zip (pa_cons (pe_ix ix_wtab (pe_gref rfl T.g_FORMS) (pe_ix ix_tup (pv 0) pe_int (fun _ _ => rfl)) (fun _ _ => rfl)) (pa_cons (pe_slice sl_tupA (pv 0) (po_some pe_int) po_none) pa_nil))) (pg_tup rfl (pgs_cons (pg_name (i := 1) sc_has_form.nd rfl (.inl rfl)) (pgs_cons (pg_name (i := 2) sc_has_form.nd rfl (.inl rfl)) pgs_nil))) (pss_cons (ps_if (PW.pt (pw_and (pt_cmpR op_eq (pv 1) pe_str (nomark _)) (pw_and1 (pt_not (pt_val (pe_cal c_is_word (hr.mono (by omega)) rfl pass0 (pa_cons (pv 2) pa_nil))))))) (pss_one (ps_ret pe_bl)) pss_nil)
     (pss_one (ps_if (PW.pt (pw_and (pt_cmpR op_eq (pv 1) pe_str (nomark _)) (pw_and1 (PW.pt (pw_or (pt_not (pt_val (pe_cal c_is_integer (hr.mono (by omega)) rfl pass0 (pa_cons (pv 2) pa_nil)))) (pw_or1 (pt_cmpR op_lt (pv 2) pe_int (nomark _)))))))) (pss_one (ps_ret pe_bl)) pss_nil))))
     (pss_one (ps_ret pe_bl))))), ?_⟩
   refine ⟨_, rfl, v, _, _, _, _, rfl, .ty _, ty_dp hd, kit_tuple d, _, rfl, ?_⟩
   cases hd with
   | @tup t xs ds hq ha =>
     refine ifF rfl ⟨_, rfl, t, xs, rfl, .inr hq, rfl, _, rfl, ?_⟩
     cases ha with
     | nil => exact ifT rfl (ifT rfl (k _ (Same.refl _)))
     | @cons v0 vr d0 dr h0 hr0 =>
     refine ifF (decide_eq_false (by intro z; injection z with z; rw [List.length_cons] at z; omega)) ?_
     refine ⟨_, rfl, t, _, 0, _, rfl, rfl, hq, atI_zero _ _, v0, _, _, _, _, rfl, .ty _, ty_dp h0, kit_str d0, _, rfl, ?_⟩
     cases h0 with
     | str kind =>
       refine ifF rfl ?_
       refine ⟨_, rfl, t, _, 0, _, rfl, rfl, hq, atI_zero _ _, pF, kind, _, rfl, rfl, T.w_FORMS, _, rfl, ?_⟩
       rw [forms_look]
       unfold hasForm at k
       dsimp only at k
       cases hf : forms.lookup kind with
       | none =>
         rw [hf] at k
         exact ifT rfl (ifT rfl (k _ (Same.refl _)))
       | some sh =>
       rw [hf] at k
       dsimp only at k
       have hsl := (forms_ok hf).1
       have hvl := hr0.len
       refine ifF rfl ⟨_, rfl, t, _, rfl, .inr hq, _, rfl, t, _, 0, _, rfl, rfl, hq, atI_zero _ _, pF, kind, _, .str sh, rfl, rfl, T.w_FORMS, by rw [forms_look, hf]; rfl, sh, rfl, sz_lit (by omega), _, _, rfl, rfl, rfl, _, rfl, ?_⟩
       have el : decide (V.int ((V.str kind :: vr).length : Nat) = V.int (1 + (sh.length : Nat))) = decide (dr.length = sh.length) := by
         rw [Bool.eq_iff_iff, decide_eq_true_iff, decide_eq_true_iff, List.length_cons]
         constructor
         · intro z; injection z with z; omega
         · intro z; congr 1; omega
       rw [el]
       by_cases e3 : ¬ dr.length = sh.length
       · rw [decide_eq_false e3, Bool.false_and] at k
         rw [decide_eq_false e3]
         exact ifT rfl (k _ (Same.refl _))
       have e3 : dr.length = sh.length := Decidable.byContradiction e3
       rw [decide_eq_true e3, Bool.true_and] at k
       rw [decide_eq_true e3]
       refine ifF rfl ⟨_, rfl, t, _, 0, _, rfl, rfl, hq, atI_zero _ _, pF, kind, _, .str sh, rfl, rfl, T.w_FORMS, by rw [forms_look, hf]; rfl, _, rfl, 1, rfl, t, _, rfl, hq, fun z => absurd z (cut1nT _ _), fun _ p hp => ?_⟩
       rw [cut1T]
       have sm : Same H (upd H p (.tup vr)) := Same.new hp
       refine ⟨sh, p, vr, rfl, .inl (.inl upd_same), ?_⟩
       have hlen : sh.cps.size = dr.length := e3.symm
       refine for_zipS (by omega) (fun i σ H' => (∃ y1 y2 : Option V, σ = [some (.ref t), y1, y2]) ∧ Same H H' ∧ SqT K H' p vr ∧ ((sh.cps.toList.zip dr).take i).all (fun p => codeFits p.1 p.2) = true) ⟨⟨_, _, rfl⟩, sm, .inl (.inl upd_same), rfl⟩ (fun i σ H' q => q.2.2.1) ?_ ?_
       · rintro i ch y T0 σ H' h1 h2 ⟨⟨y1, y2, rfl⟩, s1, hp1, hall⟩ hT0
         obtain ⟨d, h3, hdy⟩ := hr0.get h2
         have sm1 : Same H' (upd H' T0 (.tup [.str ⟨#[ch]⟩, y])) := Same.new hT0
         have hz : (sh.cps.toList.zip dr)[i]? = some (ch, d) := by
           rw [List.getElem?_zip_eq_some]
           exact ⟨by rw [Array.getElem?_toList]; exact h1, h3⟩
         refine ⟨T0, _, rfl, .inl (.inl upd_same), rfl, _, _, rfl, _, _, rfl, rfl, ?_⟩
         have s2 := s1.trans sm1
         have hp2 := hp1.mono sm1
         revert s2 hp2
         generalize upd H' T0 (.tup [.str ⟨#[ch]⟩, y]) = H2
         intro s2 hp2
         have hdy2 := hdy.mono s2
         have hch := (forms_ok hf).2 ch (by rw [Array.mem_toList_iff]; exact Array.mem_of_getElem? h1)
         have go : ∀ b, codeFits ch d = b → (if b = true then ((sh.cps.toList.zip dr).take (i + 1)).all (fun p => codeFits p.1 p.2) = true else (sh.cps.toList.zip dr).all (fun p => codeFits p.1 p.2) = false) := fun b hb => by
           cases b with
           | true =>
             rw [if_pos rfl, TS.take_one hz, List.all_append, hall]
             simp [hb]
           | false =>
             rw [if_neg Bool.false_ne_true]
             refine Bool.eq_false_iff.mpr fun z => ?_
             have := List.all_eq_true.mp z (ch, d) (List.mem_of_getElem? hz)
             dsimp only at this
             rw [hb] at this
             cases this
         refine ⟨_, rfl, rfl, _, rfl, ?_⟩
         rcases hch with rfl | rfl
         · refine ifT (by decide +kernel) ⟨_, rfl, y, d, rfl, hdy2, fun x e => hsh _ _ rfl x (e ▸ List.mem_of_getElem? h3), _, rfl, ?_⟩
           have g := go _ (show codeFits 119 d = isWord d by unfold codeFits; rw [if_pos rfl])
           revert g
           cases isWord d with
           | true =>
             intro g
             rw [if_pos rfl] at g
             exact ifF rfl ⟨_, rfl, rfl, _, rfl, ifF (by decide +kernel) ⟨⟨_, _, rfl⟩, s2, hp2, g⟩⟩
           | false =>
             intro g
             rw [if_neg Bool.false_ne_true] at g
             rw [g] at k
             exact ifT rfl (k _ s2)
         · refine ifF (by decide +kernel) ⟨_, rfl, rfl, _, rfl, ifT (by decide +kernel) ⟨_, rfl, y, d, rfl, hdy2, _, rfl, ?_⟩⟩
           have yes : isInt d = false ∨ (∃ n : Int, d = .int n ∧ n < 0) → Q (.bl false) H2 := fun h => by
             have g := go false (by
               unfold codeFits
               rw [if_neg (by decide)]
               rcases h with h | ⟨n, rfl, h⟩
               · cases d <;> first | rfl | cases h
               · exact decide_eq_false (by omega))
             rw [if_neg Bool.false_ne_true] at g
             rw [g] at k
             exact k _ s2
           cases hdy2 with
           | int n =>
             refine ifF rfl ⟨_, rfl, _, _, rfl, rfl, _, rfl, ?_⟩
             by_cases hn : n < 0
             · exact ifT (decide_eq_true hn) (yes (.inr ⟨n, rfl, hn⟩))
             · have g := go true (by unfold codeFits; rw [if_neg (by decide)]; exact decide_eq_true (by omega))
               rw [if_pos rfl] at g
               exact ifF (decide_eq_false hn) ⟨⟨_, _, rfl⟩, s2, hp2, g⟩
           | _ => exact ifT rfl (ifT rfl (yes (.inl rfl)))
       · rintro σ H' ⟨⟨y1, y2, rfl⟩, s1, _, hall⟩
         rw [List.take_of_length_le (by rw [List.length_zip, Array.length_toList]; omega)] at hall
         rw [hall] at k
         exact k _ s1
     | _ => exact ifT rfl (k _ (Same.refl _))
   | _ => exact ifT rfl (ifT rfl (k _ (Same.refl _)))
end
end Op
set_option pp.maxSteps 500
namespace Op
open PySem L2 PyProof.Rows
theorem sqt_updL {K : PySem.W.Frag} {H : Hp} {a D : Addr} {xs ys : List V} {o : HO} (h : SqT K H a xs) (hD : H D = some (.lst ys)) : SqT K (upd H D o) a xs := by
 rcases h with (h | ⟨u, h⟩) | h
 · exact .inl (.inl (by rw [L2.upd_ne fun q => by rw [q, hD] at h; cases h]; exact h))
 · exact .inl (.inr ⟨u, by rw [L2.upd_ne fun q => by rw [q, hD] at h; cases h]; exact h⟩)
 · exact .inr h
def Tks (K : PySem.W.Frag) (H : Hp) (vs : List V) (ts : List Tk) : Prop := DpAll K H vs (ts.map Tk.d)
theorem Tks.mono {K : PySem.W.Frag} {H H' : Hp} {vs : List V} {ts : List Tk} (h : Tks K H vs ts) (s : Same H H') : Tks K H' vs ts := DpAll.mono s h
theorem tk_updL {K : PySem.W.Frag} {H : Hp} {D : Addr} {ys : List V} {o : HO} {v : V} {t : Tk} (h : Dp K H v t.d) (hD : H D = some (.lst ys)) : Dp K (upd H D o) v t.d := by
 obtain ⟨a, rfl, hq⟩ := tk_at h
 exact tk_dp (sqt_updL hq hD)
theorem Tks.updL {K : PySem.W.Frag} {H : Hp} {D : Addr} {ys : List V} {o : HO} (hD : H D = some (.lst ys)) : ∀ {vs : List V} {ts : List Tk}, Tks K H vs ts → Tks K (upd H D o) vs ts
 | _, [], .nil => .nil
 | _, t :: r, .cons h1 h2 => .cons (tk_updL h1 hD) (Tks.updL hD (ts := r) h2)
theorem Tks.app {K : PySem.W.Frag} {H : Hp} : ∀ {vs us : List V} {ts rs : List Tk}, Tks K H vs ts → Tks K H us rs → Tks K H (vs ++ us) (ts ++ rs)
 | _, _, [], _, .nil, h => h
 | _, _, t :: r, _, .cons h1 h2, h => .cons h1 (Tks.app (ts := r) h2 h)
theorem Tks.one {K : PySem.W.Frag} {H : Hp} {v : V} {t : Tk} (h : Dp K H v t.d) : Tks K H [v] [t] := .cons h .nil
theorem Tks.len {K : PySem.W.Frag} {H : Hp} {vs : List V} {ts : List Tk} (h : Tks K H vs ts) : vs.length = ts.length := by
 have := DpAll.len h
 rw [List.length_map] at this
 exact this
theorem Tks.get {K : PySem.W.Frag} {H : Hp} {vs : List V} {ts : List Tk} {i : Nat} {v : V} (h : Tks K H vs ts) (hv : vs[i]? = some v) : ∃ t, ts[i]? = some t ∧ Dp K H v t.d := by
 obtain ⟨d, h1, h2⟩ := DpAll.get h hv
 rw [List.getElem?_map] at h1
 cases q : ts[i]? with
 | none => rw [q] at h1; cases h1
 | some t =>
   rw [q] at h1
   obtain rfl := Option.some.inj h1
   exact ⟨t, rfl, h2⟩
def TR (K : PySem.W.Frag) (H : Hp) (q : Addr) (tss : List (List Tk)) : Prop := ∃ ps : List Addr, H q = some (.lst (ps.map V.ref)) ∧ ps.length = tss.length ∧ ∀ (i : Nat) (p : Addr) (ts : List Tk), ps[i]? = some p → tss[i]? = some ts → ∃ vs, H p = some (.lst vs) ∧ Tks K H vs ts
theorem TR.mono {K : PySem.W.Frag} {H H' : Hp} {q : Addr} {tss : List (List Tk)} (h : TR K H q tss) (s : Same H H') : TR K H' q tss := by
 obtain ⟨ps, h1, h2, h3⟩ := h
 refine ⟨ps, s _ _ h1, h2, fun i p ts e1 e2 => ?_⟩
 obtain ⟨vs, h4, h5⟩ := h3 i p ts e1 e2
 exact ⟨vs, s _ _ h4, h5.mono s⟩
def TT (K : PySem.W.Frag) (H0 H : Hp) (q : Addr) (tss : List (List Tk)) : Prop := ∃ ps : List Addr, H q = some (.lst (ps.map V.ref)) ∧ H0 q = none ∧ ps.Nodup ∧ q ∉ ps ∧ (∀ p ∈ ps, H0 p = none) ∧ ps.length = tss.length ∧
 ∀ (i : Nat) (p : Addr) (ts : List Tk), ps[i]? = some p → tss[i]? = some ts → ∃ vs, H p = some (.lst vs) ∧ Tks K H vs ts
theorem TT.r {K : PySem.W.Frag} {H0 H : Hp} {q : Addr} {tss : List (List Tk)} (h : TT K H0 H q tss) : TR K H q tss :=
 let ⟨ps, h1, _, _, _, _, h2, h3⟩ := h
 ⟨ps, h1, h2, h3⟩
theorem Same.updN {H H' : Hp} {a : Addr} {o : HO} (s : Same H H') (h : H a = none) : Same H (upd H' a o) := fun b u e => by
 rw [L2.upd_ne (ne_of_none e h)]
 exact s b u e
theorem TT.nil {K : PySem.W.Frag} {H0 H : Hp} {q : Addr} (h : H q = some (.lst [])) (h0 : H0 q = none) : TT K H0 H q [] :=
 ⟨[], h, h0, List.nodup_nil, List.not_mem_nil, fun p hp => (List.not_mem_nil hp).elim, rfl, fun i p ts e => by cases e⟩
theorem TT.push {K : PySem.W.Frag} {H0 H : Hp} {q p : Addr} {tss : List (List Tk)} {ps : List Addr} {vs : List V} {ts : List Tk} (h : TT K H0 H q tss) (hq : H q = some (.lst (ps.map V.ref))) (hp : H p = some (.lst vs)) (hn : p ∉ ps) (hpq : p ≠ q) (h0 : H0 p = none) (ht : Tks K H vs ts) :
   TT K H0 (upd H q (.lst (ps.map V.ref ++ [.ref p]))) q (tss ++ [ts]) := by
 obtain ⟨ps', h1, h2, h3, h4, h5, h6, h7⟩ := h
 obtain rfl : ps' = ps := by
   rw [hq] at h1
   injection h1 with h1
   injection h1 with h1
   exact (List.map_inj_right (fun a b e => by injection e)).mp h1.symm
 refine ⟨ps' ++ [p], by rw [upd_same, List.map_append]; rfl, h2, List.nodup_append.mpr ⟨h3, List.pairwise_singleton _ _, fun a ha b hb => by rw [List.mem_singleton.mp hb]; exact fun e => hn (e ▸ ha)⟩, fun z => ?_, fun b hb => ?_, by rw [List.length_append, List.length_append, h6]; rfl, fun i b us e1 e2 => ?_⟩
 · rcases List.mem_append.mp z with z | z
   · exact h4 z
   · exact hpq (List.mem_singleton.mp z).symm
 · rcases List.mem_append.mp hb with z | z
   · exact h5 b z
   · rw [List.mem_singleton.mp z]; exact h0
 · by_cases hi : i < ps'.length
   · rw [List.getElem?_append_left hi] at e1
     rw [List.getElem?_append_left (by omega)] at e2
     obtain ⟨ws, h8, h9⟩ := h7 i b us e1 e2
     have hb : b ≠ q := fun e => h4 (e ▸ List.mem_of_getElem? e1)
     exact ⟨ws, by rw [L2.upd_ne hb]; exact h8, h9.updL hq⟩
   · rw [List.getElem?_append_right (by omega)] at e1
     rw [List.getElem?_append_right (by omega)] at e2
     obtain ⟨z1, z2⟩ : b = p ∧ us = ts := by
       rw [← h6] at e2
       cases hz : i - ps'.length with
       | zero =>
         rw [hz] at e1 e2
         exact ⟨(Option.some.inj e1).symm, (Option.some.inj e2).symm⟩
       | succ n => rw [hz] at e1; cases e1
     subst z1 z2
     exact ⟨vs, by rw [L2.upd_ne hpq]; exact hp, ht.updL hq⟩
theorem TT.last {K : PySem.W.Frag} {H0 H : Hp} {q p : Addr} {tss : List (List Tk)} {ps : List Addr} {v : V} {t : Tk} (h : TT K H0 H q tss) (hq : H q = some (.lst (ps.map V.ref))) (hp : ps.getLast? = some p) (ht : Dp K H v t.d) :
   ∃ vs, H p = some (.lst vs) ∧ H0 p = none ∧ Tks K H vs (tss.getLastD []) ∧ TT K H0 (upd H p (.lst (vs ++ [v]))) q (tss.dropLast ++ [tss.getLastD [] ++ [t]]) := by
 obtain ⟨ps', h1, h2, h3, h4, h5, h6, h7⟩ := h
 obtain rfl : ps' = ps := by
   rw [hq] at h1
   injection h1 with h1
   injection h1 with h1
   exact (List.map_inj_right (fun a b e => by injection e)).mp h1.symm
 rw [List.getLast?_eq_getElem?] at hp
 have hpl : ps'.length - 1 < ps'.length := (List.getElem?_eq_some_iff.mp hp).1
 have hx : tss[ps'.length - 1]? = some (tss.getLastD []) := by
   rw [h6, List.getLastD_eq_getLast?, List.getLast?_eq_getElem?, List.getElem?_eq_getElem (by omega)]
   rfl
 obtain ⟨vs, h8, h9⟩ := h7 _ _ _ hp hx
 have hmem := List.mem_of_getElem? hp
 have hpq : p ≠ q := fun e => h4 (e ▸ hmem)
 refine ⟨vs, h8, h5 p hmem, h9, ps', by rw [L2.upd_ne (Ne.symm hpq)]; exact hq, h2, h3, h4, h5, by rw [List.length_append, List.length_dropLast, List.length_singleton]; omega, fun i b us e1 e2 => ?_⟩
 by_cases hi : i = ps'.length - 1
 · subst hi
   obtain rfl : p = b := Option.some.inj (hp.symm.trans e1)
   rw [List.getElem?_append_right (by rw [List.length_dropLast]; omega), List.length_dropLast, show ps'.length - 1 - (tss.length - 1) = 0 by omega] at e2
   obtain rfl := Option.some.inj e2
   exact ⟨_, upd_same, Tks.app (h9.updL h8) (Tks.one (tk_updL ht h8))⟩
 · have hil : i < ps'.length := (List.getElem?_eq_some_iff.mp e1).1
   rw [List.getElem?_append_left (by rw [List.length_dropLast]; omega), List.getElem?_dropLast, if_pos (by omega)] at e2
   obtain ⟨ws, h10, h11⟩ := h7 i b us e1 e2
   have hb : b ≠ p := fun e => hi ((List.getElem?_inj hil h3).mp (by rw [e1, hp, e]))
   exact ⟨ws, by rw [L2.upd_ne hb]; exact h10, h11.updL h8⟩
theorem atI_last {α : Type} {xs : List α} {v : α} (h : xs.getLast? = some v) : atI xs (-1) = some v := by
 rw [List.getLast?_eq_getElem?] at h
 have hl := (List.getElem?_eq_some_iff.mp h).1
 unfold atI
 have e : ixN xs.length (-1) = some (xs.length - 1) := by
   unfold ixN
   rw [if_neg (by decide), if_pos (by omega)]
   congr 1
   omega
 rw [e]
 exact h
theorem split_ne : ∀ {ts : List Tk}, ts ≠ [] → (∀ t, ts[0]? = some t → isOut t = true) → split ts ≠ [] := by
 have key : ∀ (ts : List Tk) (acc : List (List Tk)), acc ≠ [] → ts.foldl splitA acc ≠ [] := by
   intro ts
   induction ts with
   | nil => exact fun acc h => h
   | cons t r ih =>
     intro acc h
     refine ih _ ?_
     unfold splitA
     split
     · exact List.append_ne_nil_of_right_ne_nil _ (List.cons_ne_nil _ _)
     · exact List.append_ne_nil_of_right_ne_nil _ (List.cons_ne_nil _ _)
 intro ts h h0
 cases ts with
 | nil => exact absurd rfl h
 | cons t r =>
   refine key r _ ?_
   unfold splitA
   rw [if_pos (h0 t rfl)]
   exact List.append_ne_nil_of_right_ne_nil _ (List.cons_ne_nil _ _)
theorem split_len : ∀ (ts : List Tk) (acc : List (List Tk)), (ts.foldl splitA acc).length ≤ acc.length + ts.length
 | [], acc => Nat.le_refl _
 | t :: r, acc => by
   have ih := split_len r (splitA acc t)
   have : (splitA acc t).length ≤ acc.length + 1 := by
     unfold splitA
     split
     · rw [List.length_append]; exact Nat.le_refl _
     · rw [List.length_append, List.length_dropLast, List.length_singleton]; omega
   rw [List.foldl_cons, List.length_cons]
   omega
theorem flat_last {acc : List (List Tk)} (h : acc ≠ []) (t : Tk) : (acc.dropLast ++ [acc.getLastD [] ++ [t]]).flatten = acc.flatten ++ [t] := by
 have e : acc = acc.dropLast ++ [acc.getLastD []] := by
   rw [List.getLastD_eq_getLast?, List.getLast?_eq_some_getLast h]
   exact (List.dropLast_concat_getLast h).symm
 conv => rhs; rw [e]
 rw [List.flatten_append, List.flatten_append, List.flatten_singleton, List.flatten_singleton, List.append_assoc]
theorem split_flatA : ∀ (ts : List Tk) (acc : List (List Tk)), acc ≠ [] → (ts.foldl splitA acc).flatten = acc.flatten ++ ts
 | [], acc, _ => (List.append_nil _).symm
 | t :: r, acc, h => by
   have h2 : splitA acc t ≠ [] := by
     unfold splitA
     split <;> exact List.append_ne_nil_of_right_ne_nil _ (List.cons_ne_nil _ _)
   rw [List.foldl_cons, split_flatA r _ h2]
   have : (splitA acc t).flatten = acc.flatten ++ [t] := by
     unfold splitA
     split
     · rw [List.flatten_append, List.flatten_singleton]
     · exact flat_last h t
   rw [this, List.append_assoc]
   rfl
theorem split_flat {ts : List Tk} (h0 : ∀ t, ts[0]? = some t → isOut t = true) : (split ts).flatten = ts := by
 cases ts with
 | nil => rfl
 | cons t r =>
   have e : splitA [] t = [[t]] := by unfold splitA; rw [if_pos (h0 t rfl)]; rfl
   show (r.foldl splitA (splitA [] t)).flatten = _
   rw [e, split_flatA r _ (List.cons_ne_nil _ _)]
   rfl
section
variable {P : Program} {w : World} {K : PySem.W.Frag} {mg : Str → Option Value} {base : Heap} {pF pO pN pL CH CA : Addr}
def spSplit (K : PySem.W.Frag) : Sp := fun vs H Q _ => ∃ (l : Addr) (us : List V) (ts : List Tk), vs = [.ref l] ∧ H l = some (.lst us) ∧ Tks K H us ts ∧ ts.length ≤ 1000 ∧ (∀ t, ts[0]? = some t → isOut t = true) ∧ ∀ q H', Same H H' → TT K H H' q (split ts) → Q (.ref q) H'
theorem sc_split_turns : FnScope ["history", "turns", "token"] ["history"] (defScope s_split_turns) := ⟨rfl, rfl, rfl, by decide +kernel, rfl, by decide +kernel, by decide +kernel⟩
theorem ok_split {f : Addr} {fd : FuncData} (F : Fun K "split_turns" "split_turns" s_split_turns f fd) (T : TxtH P w K mg pF pO pN pL CH CA) (c_is_outer : Cal P w K mg base CX0 1 "is_outer" ["token"] (spIsOut K)) : FnOk P w K mg base CX0 2 f fd ["history"] (spSplit K) := by
 refine F.ok sc_split_turns (fun vs H Q E h => ?_) (fun cdv A outer s H vs Q E hr h => ?_)
 · obtain ⟨l, us, ts, rfl, _⟩ := h
   rfl
 · obtain ⟨l, us, ts, rfl, hl, ht, hn, h0, k⟩ := h
   have hul := ht.len
   refine ⟨_, (pss_cons (ps_set (i := 1) sc_split_turns.nd rfl (.inl rfl) (pe_lst pa_nil))
     (pss_cons (ps_for PassesOwn.never rfl (pi_list (pv 0)) (pg_name (i := 2) sc_split_turns.nd rfl (.inl rfl)) (pss_one (ps_if (pt_val (pe_cal c_is_outer (hr.mono (by omega)) rfl pass0 (pa_cons (pv 2) pa_nil))) (pss_one (ps_expr (pe_bm PySem.F.plainAttrs_list PySem.F.slot_list_append PySem.F.type_list_append mt_append (pv 1) (pa_cons (pe_lst (pa_cons (pv 2) pa_nil)) pa_nil)))) (pss_one (ps_expr (pe_bm PySem.F.plainAttrs_list PySem.F.slot_list_append PySem.F.type_list_append mt_append (pe_ix ix_list (pv 1) (pe_un un_neg pe_int) (fun _ _ => rfl)) (pa_cons (pv 2) pa_nil)))))))
     (pss_one (ps_ret (pv 1))))), ?_⟩
   refine ⟨sz_lit (by show 0 ≤ 100000; decide), fun q hq => ?_⟩
   have s1 : Same H (upd H q (.lst [])) := Same.new hq
   have q1 : upd H q (.lst []) q = some (.lst []) := upd_same
   revert s1 q1
   generalize upd H q (.lst []) = H1
   intro s1 q1
   refine ⟨_, rfl, l, rfl, ⟨_, .inl (.inl (s1 _ _ hl))⟩, ?_⟩
   refine for_it (walk_list (xs := us)) (fun i σ H' => (∃ y2 : Option V, σ = [some (.ref l), some (.ref q), y2]) ∧ Same H H' ∧ TT K H H' q (split (ts.take i))) ⟨⟨_, rfl⟩, s1, TT.nil q1 hq⟩ (fun i σ H' _ z => .inl (.inl (z.2.1 _ _ hl))) ?_ ?_
   · rintro i x σ H'' H' hi ⟨⟨y2, rfl⟩, s2, t2⟩ ⟨rfl, hx⟩
     obtain ⟨t, h1, hd⟩ := ht.get hx
     have hst : split (ts.take (i + 1)) = splitA (split (ts.take i)) t := by
       unfold split
       rw [TS.take_one h1, List.foldl_append]
       rfl
     refine ⟨_, rfl, _, t, rfl, hd.mono s2, _, rfl, ?_⟩
     by_cases ho : isOut t = true
     · rw [ho]
       obtain ⟨ps, p1, p2, p3, p4, p5, p6, p7⟩ := id t2
       refine ifT rfl ⟨_, rfl, .inl ⟨rfl, _, .inl (.inl p1)⟩, _, rfl, sz1 _, fun p hp => ?_⟩
       have sp : Same H' (upd H' p (.lst [x])) := Same.new hp
       have hpq : p ≠ q := fun e => by rw [e, p1] at hp; cases hp
       have hp0 : H p = none := by
         cases z : H p with
         | none => rfl
         | some o => rw [s2 _ _ z] at hp; cases hp
       have hpn : p ∉ ps := fun hm => by
         obtain ⟨j, hj⟩ := List.getElem?_of_mem hm
         have hjl := (List.getElem?_eq_some_iff.mp hj).1
         obtain ⟨ws, h3, _⟩ := p7 j p _ hj (List.getElem?_eq_getElem (by omega))
         rw [h3] at hp
         cases hp
       have t3 : TT K H (upd H' p (.lst [x])) q (split (ts.take i)) := ⟨ps, sp _ _ p1, p2, p3, p4, p5, p6, fun j b us e1 e2 => by
         obtain ⟨ws, h3, h4⟩ := p7 j b us e1 e2
         exact ⟨ws, sp _ _ h3, h4.mono sp⟩⟩
       refine ⟨q, _, _, rfl, rfl, sp _ _ p1, lt_sz ?_, ⟨_, rfl⟩, Same.updN (s2.trans sp) hq, ?_⟩
       · have := split_len (ts.take i) []
         rw [List.length_take] at this
         have e : (split (ts.take i)).length ≤ 0 + min i ts.length := this
         rw [List.length_map]
         omega
       · rw [hst, show splitA (split (ts.take i)) t = split (ts.take i) ++ [[t]] by unfold splitA; rw [if_pos ho]]
         exact t3.push (sp _ _ p1) upd_same hpn hpq hp0 (Tks.one (hd.mono (s2.trans sp)))
     · have hi0 : i ≠ 0 := fun e => ho (h0 t (e ▸ h1))
       rw [Bool.eq_false_iff.mpr ho]
       obtain ⟨ps, p1, p2, p3, p4, p5, p6, p7⟩ := id t2
       have hne : split (ts.take i) ≠ [] := split_ne (fun e => by
         have := congrArg List.length e
         rw [List.length_take, List.length_nil] at this
         omega) fun t' e => h0 t' (by rw [List.getElem?_take, if_pos (by omega)] at e; exact e)
       obtain ⟨p, hp⟩ : ∃ p, ps.getLast? = some p := by
         cases z : ps.getLast? with
         | some p => exact ⟨p, rfl⟩
         | none =>
           rw [List.getLast?_eq_none_iff] at z
           rw [z] at p6
           exact absurd (List.length_eq_zero_iff.mp p6.symm) hne
       obtain ⟨ws, w1, w2, w3, w4⟩ := t2.last p1 hp (hd.mono s2)
       refine ifF rfl ⟨_, rfl, 1, rfl, q, _, -1, _, rfl, rfl, .inl (.inl p1), atI_last (by rw [List.getLast?_map, hp]; rfl), ?_⟩
       refine ⟨.inl ⟨rfl, _, .inl (.inl w1)⟩, _, rfl, p, _, _, rfl, rfl, w1, lt_sz ?_, ⟨_, rfl⟩, Same.updN s2 w2, ?_⟩
       · have e1 : (split (ts.take i)).flatten = ts.take i := split_flat fun t' e => h0 t' (by rw [List.getElem?_take, if_pos (by omega)] at e; exact e)
         have e2 : (split (ts.take i)).getLastD [] ∈ split (ts.take i) := by
           rw [List.getLastD_eq_getLast?, List.getLast?_eq_some_getLast hne]
           exact List.getLast_mem hne
         have e3 := (List.sublist_flatten_of_mem e2).length_le
         rw [e1, List.length_take] at e3
         rw [w3.len]
         omega
       · rw [hst, show splitA (split (ts.take i)) t = (split (ts.take i)).dropLast ++ [(split (ts.take i)).getLastD [] ++ [t]] by unfold splitA; rw [if_neg ho]]
         exact w4
   · rintro σ H' ⟨⟨y2, rfl⟩, s2, t2⟩
     rw [List.take_of_length_le (by omega)] at t2
     exact ⟨_, rfl, k _ _ s2 t2⟩
end
end Op
set_option pp.maxSteps 500
namespace Op
open PySem L2 PyProof.Rows
def DT (d : PyData) : Option Tk → Prop
 | some t => Okt t ∧ d = t.d
 | none => hasForm d = false
theorem DT.form {d : PyData} {o : Option Tk} (h : DT d o) : hasForm d = o.isSome := by
 cases o with
 | none => exact h
 | some t => exact (hasForm_iff d).mpr ⟨t, h.1, h.2⟩
inductive DTs : List PyData → List (Option Tk) → Prop
 | nil : DTs [] []
 | cons {d : PyData} {o : Option Tk} {ds : List PyData} {os : List (Option Tk)} : DT d o → DTs ds os → DTs (d :: ds) (o :: os)
theorem DTs.len {ds : List PyData} {os : List (Option Tk)} (h : DTs ds os) : ds.length = os.length := by
 induction h with
 | nil => rfl
 | cons _ _ ih => exact congrArg Nat.succ ih
theorem DTs.get {ds : List PyData} {os : List (Option Tk)} {i : Nat} {d : PyData} (h : DTs ds os) (hd : ds[i]? = some d) : ∃ o, os[i]? = some o ∧ DT d o := by
 induction h generalizing i with
 | nil => cases hd
 | cons h1 _ ih =>
   cases i with
   | zero =>
     obtain rfl := Option.some.inj hd
     exact ⟨_, rfl, h1⟩
   | succ i => exact ih hd
def chkO : List (Option Tk) → Nat → List Str → Bool → Option Nat
 | [], _, _, _ => none
 | none :: _, i, _, _ => some i
 | some t :: r, i, th, ov => if ov = true ∨ decide (t.k = "begin") ≠ decide (i = 0) then some i else if suits t th = true then chkO r (i + 1) (enter t th) (isLast t) else some i
def chkOH (os : List (Option Tk)) : Option Nat := if os = [] then some 0 else chkO os 0 [] false
def chkH (ts : List Tk) : Option Nat := if ts = [] then some 0 else chk ts 0 [] false
theorem chkO_some : ∀ (ts : List Tk) (i : Nat) (th : List Str) (ov : Bool), chkO (ts.map some) i th ov = chk ts i th ov
 | [], _, _, _ => rfl
 | t :: r, i, th, ov => by
   show chkO (some t :: r.map some) i th ov = _
   unfold chkO chk
   rw [chkO_some r]
theorem DTs.tks : ∀ {ds : List PyData} {ts : List Tk}, DTs ds (ts.map some) → ds = ts.map Tk.d ∧ ∀ t ∈ ts, Okt t
 | [], [], _ => ⟨rfl, fun t ht => (List.not_mem_nil ht).elim⟩
 | [], _ :: _, h => by cases h
 | _ :: _, [], h => by cases h
 | d :: ds, t :: ts, .cons h g => by
   obtain ⟨h1, h2⟩ := h
   obtain ⟨g1, g2⟩ := DTs.tks (ts := ts) g
   refine ⟨by rw [h2, g1]; rfl, fun x hx => ?_⟩
   rcases List.mem_cons.mp hx with rfl | hx
   · exact h1
   · exact g2 x hx
theorem drop_one {α : Type} : ∀ {l : List α} {i : Nat} {x : α}, l[i]? = some x → l.drop i = x :: l.drop (i + 1)
 | [], _, _, h => by cases h
 | a :: r, 0, x, h => by rw [Option.some.inj h]; rfl
 | a :: r, i + 1, x, h => by
   have := drop_one (l := r) (i := i) h
   exact this
theorem enter_len (t : Tk) (th : List Str) : (enter t th).length ≤ th.length + 1 := by
 unfold enter
 split
 · rw [List.length_append]; exact Nat.le_refl _
 · split
   · rw [List.length_append]; exact Nat.le_refl _
   · split
     · exact Nat.le_succ _
     · rw [List.length_set]; exact Nat.le_succ _
theorem chk_out {ts : List Tk} (h : chkH ts = none) : ∀ t, ts[0]? = some t → isOut t = true := by
 intro t ht
 cases ts with
 | nil => cases ht
 | cons a r =>
   obtain rfl := Option.some.inj ht
   unfold chkH at h
   rw [if_neg (List.cons_ne_nil _ _)] at h
   unfold chk at h
   by_cases hb : a.k = "begin"
   · unfold isOut
     rw [hb]
     decide +kernel
   · rw [if_pos (.inr (by rw [decide_eq_false hb]; decide))] at h
     cases h
def isListD : PyData → Bool
 | .list _ => true
 | _ => false
def NL (K : PySem.W.Frag) (H : Hp) (v : V) : Prop := (∃ d, Dp K H v d ∧ isListD d = false) ∨ ∃ p o, v = .ref p ∧ H p = some (.dK o)
def JH (K : PySem.W.Frag) (H : Hp) (v : V) (r : Except Int (List Tk)) : Prop :=
 (∃ (l : Addr) (us : List V) (ds : List PyData) (os : List (Option Tk)), v = .ref l ∧ H l = some (.lst us) ∧ DpAll K H us ds ∧ (∀ d ∈ ds, Short d) ∧ DTs ds os ∧ ds.length ≤ 1000 ∧ ((∃ i : Nat, chkOH os = some i ∧ r = .error (i : Int)) ∨ ∃ ts : List Tk, os = ts.map some ∧ chkH ts = none ∧ r = .ok ts)) ∨ (NL K H v ∧ r = .error (-1))
theorem NL.mono {K : PySem.W.Frag} {H H' : Hp} {v : V} (h : NL K H v) (s : Same H H') : NL K H' v := by
 rcases h with ⟨d, h1, h2⟩ | ⟨p, o, h1, h2⟩
 · exact .inl ⟨d, h1.mono s, h2⟩
 · exact .inr ⟨p, o, h1, s _ _ h2⟩
theorem JH.mono {K : PySem.W.Frag} {H H' : Hp} {v : V} {r : Except Int (List Tk)} (h : JH K H v r) (s : Same H H') : JH K H' v r := by
 rcases h with ⟨l, us, ds, os, h1, h2, h3, h4⟩ | ⟨h1, h2⟩
 · exact .inl ⟨l, us, ds, os, h1, s _ _ h2, DpAll.mono s h3, h4⟩
 · exact .inr ⟨h1.mono s, h2⟩
def XAt (H : Hp) (d : Addr) (i : Int) : Prop := H d = some (.xd [("at", .int i)])
end Op
set_option pp.maxSteps 500
namespace Op
open PySem L2 PyProof.Rows
section
variable {P : Program} {w : World} {K : PySem.W.Frag} {mg : Str → Option Value} {base : Heap} {pF pO pN pL CH CA : Addr}
def spCheckJ (K : PySem.W.Frag) (CH : Addr) : Sp := fun vs H Q X => ∃ (v : V) (r : Except Int (List Tk)), vs = [v] ∧ JH K H v r ∧ (∀ ts, r = .ok ts → ∀ H', Same H H' → Q .non H') ∧ (∀ i, r = .error i → ∀ H' d, Same H H' → XAt H' d i → X (.ref CH) (some d) H')
theorem sc_check_tokens : FnScope ["history", "things", "is_over", "at", "token"] ["history"] (defScope s_check_tokens) := ⟨rfl, rfl, rfl, by decide +kernel, rfl, by decide +kernel, by decide +kernel⟩
theorem ok_check_tokens {f : Addr} {fd : FuncData} (F : Fun K "check_tokens" "check_tokens" s_check_tokens f fd) (T : TxtH P w K mg pF pO pN pL CH CA) (c_has_form : Cal P w K mg base CX0 2 "has_form" ["token"] (spForm K)) (c_suits_things : Cal P w K mg base CX0 1 "suits_things" ["token", "things"] (spSuits K)) (c_enter_token : Cal P w K mg base CX0 1 "enter_token" ["token", "things"] (spEnter K)) :
   FnOk P w K mg base (L2.CX P w) 3 f fd ["history"] (spCheckJ K CH) := by
 refine F.okX sc_check_tokens (fun vs H Q E h => ?_) (fun cdv A outer s H vs Q E hr h => ?_)
 · obtain ⟨v, r, rfl, _⟩ := h
   rfl
 · obtain ⟨v, r, rfl, h, k1, k2⟩ := h
   refine ⟨_, (pss_cons (ps_if (pt_not (pt_val (pe_callB call_isi (by rfl) T.b_isinstance (by decide +kernel) (pa_cons (pv 0) (pa_cons (pe_bltn (v := .ty "list") (by rfl) T.b_list (by decide +kernel) rfl) pa_nil))))) (pss_one (ps_raise rfl (takes_of rfl rfl rfl rfl) (pmk_x T.mk_InvalidHistory hr rfl T.g_InvalidHistory T.k_InvalidHistory T.r_InvalidHistory (pa_cons (pe_un un_neg pe_int) pa_nil)))) pss_nil)
     (pss_cons (ps_if (pt_cmpR op_eq (pe_callB call_len_seq (by rfl) T.b_len (by decide +kernel) (pa_cons (pv 0) pa_nil)) pe_int (nomark _)) (pss_one (ps_raise rfl (takes_of rfl rfl rfl rfl) (pmk_x T.mk_InvalidHistory hr rfl T.g_InvalidHistory T.k_InvalidHistory T.r_InvalidHistory (pa_cons pe_int pa_nil)))) pss_nil)
     (pss_cons (ps_set (i := 1) sc_check_tokens.nd rfl (.inl rfl) (pe_lst pa_nil))
     (pss_cons (ps_set (i := 2) sc_check_tokens.nd rfl (.inl rfl) pe_bl)
     (pss_one (ps_for (passes_of rfl) rfl (pi_enum (by rfl) T.b_enumerate (pa_cons (pv 0) pa_nil)) (pg_tup rfl (pgs_cons (pg_name (i := 3) sc_check_tokens.nd rfl (.inl rfl)) (pgs_cons (pg_name (i := 4) sc_check_tokens.nd rfl (.inl rfl)) pgs_nil))) (pss_cons (ps_if (PW.pt (pw_or (pt_val (pv 2)) (pw_or (pt_not (pt_val (pe_cal c_has_form (hr.mono (by omega)) rfl pass0 (pa_cons (pv 4) pa_nil)))) (pw_or1 (pt_cmpR op_ne (pe_cmpR op_eq (pe_ix ix_tup (pv 4) pe_int (fun _ _ => rfl)) pe_str (nomark _)) (pe_cmpR op_eq (pv 3) pe_int (nomark _)) (nomark _)))))) (pss_one (ps_raise rfl (takes_of rfl rfl rfl rfl) (pmk_x T.mk_InvalidHistory hr rfl T.g_InvalidHistory T.k_InvalidHistory T.r_InvalidHistory (pa_cons (pv 3) pa_nil)))) pss_nil)
     (pss_cons (ps_if (pt_not (pt_val (pe_cal c_suits_things (hr.mono (by omega)) rfl pass0 (pa_cons (pv 4) (pa_cons (pv 1) pa_nil))))) (pss_one (ps_raise rfl (takes_of rfl rfl rfl rfl) (pmk_x T.mk_InvalidHistory hr rfl T.g_InvalidHistory T.k_InvalidHistory T.r_InvalidHistory (pa_cons (pv 3) pa_nil)))) pss_nil)
     (pss_cons (ps_expr (pe_cal c_enter_token (hr.mono (by omega)) rfl pass0 (pa_cons (pv 4) (pa_cons (pv 1) pa_nil))))
     (pss_one (ps_set (i := 2) sc_check_tokens.nd rfl (.inl rfl) (pe_cmpR op_in_seq (pe_ix ix_tup (pv 4) pe_int (fun _ _ => rfl)) (pe_gref rfl T.g_LAST) (by rfl))))))))))))), ?_⟩
   rcases h with ⟨l, us, ds, os, rfl, hl, ht, hsh, hdt, hn, hj⟩ | ⟨hnl, hr'⟩
   · have hul := ht.len
     have hol := hdt.len
     refine ⟨_, rfl, .ref l, _, _, _, _, rfl, .ty _, ty_dp (.lst (.inl (.inl hl)) ht), kit_list _, _, rfl, ifF rfl ?_⟩
     refine ⟨_, rfl, l, us, rfl, .inl (.inl (.inl hl)), rfl, _, rfl, ?_⟩
     have K1 : chkOH os = none → ∀ H', Same H H' → Q .non H' := fun h => by
       rcases hj with ⟨i, e1, _⟩ | ⟨ts, _, _, e⟩
       · rw [h] at e1; cases e1
       · exact k1 ts e
     have K2 : ∀ i : Nat, chkOH os = some i → ∀ H' d, Same H H' → XAt H' d (i : Int) → E (.ref CH) (some d) H' := fun i h => by
       rcases hj with ⟨j, e1, e⟩ | ⟨ts, e1, e2, _⟩
       · rw [h] at e1
         obtain rfl := Option.some.inj e1
         exact k2 _ e
       · exfalso
         subst e1
         unfold chkOH at h
         unfold chkH at e2
         by_cases hts : ts = []
         · rw [if_pos hts] at e2; cases e2
         · rw [if_neg hts] at e2
           rw [if_neg (fun e => hts (List.map_eq_nil_iff.mp e)), chkO_some, e2] at h
           cases h
     by_cases hos : os = []
     · subst hos
       obtain rfl : us = [] := List.length_eq_zero_iff.mp (hul.trans hol)
       exact ifT rfl ⟨rfl, fun d hd => K2 0 (if_pos rfl) _ d (Same.new hd) upd_same⟩
     have hc0 : chkOH os = chkO os 0 [] false := if_neg hos
     rw [hc0] at K1 K2
     have hus : 0 < us.length := by
       rw [hul, hol]
       exact List.length_pos_iff.mpr hos
     refine ifF (decide_eq_false (by intro z; injection z with z; omega)) ⟨sz_lit (by show 0 ≤ 100000; decide), fun q hq => ?_⟩
     have s1 : Same H (upd H q (.lst [])) := Same.new hq
     have c1 : upd H q (.lst []) q = some (.lst []) := upd_same
     revert s1 c1
     generalize upd H q (.lst []) = H1
     intro s1 c1
     refine ⟨_, rfl, l, us, rfl, .inl (.inl (s1 _ _ hl)), ?_⟩
     refine for_it walk_enum (fun i σ H' => ∃ (th : List Str) (ov : Bool) (y3 y4 : Option V), σ = [some (.ref l), some (.ref q), some (.bl ov), y3, y4] ∧ Same H H' ∧ H' q = some (.lst (th.map V.str)) ∧ chkO os 0 [] false = chkO (os.drop i) i th ov ∧ th.length ≤ i) ⟨[], false, _, _, rfl, s1, c1, rfl, Nat.le_refl _⟩ (fun i σ H' _ ⟨_, _, _, _, _, z, _⟩ => .inl (.inl (z _ _ hl))) ?_ ?_
     · rintro i v σ H1 H2 hi ⟨th, ov, y3, y4, rfl, s2, h2, h3, h4⟩ ⟨T0, x0, y, rfl, hT0, rfl, hx0, hy⟩
       obtain rfl : x0 = .int (i : Nat) := (Option.some.inj hx0).symm
       obtain ⟨dd, hd1, hd⟩ := ht.get hy
       obtain ⟨o, ho1, hdo⟩ := hdt.get hd1
       rw [drop_one ho1] at h3
       have hshd := hsh dd (List.mem_of_getElem? hd1)
       refine ⟨T0, _, rfl, .inl (.inl upd_same), rfl, _, _, rfl, _, _, rfl, rfl, ?_⟩
       have sm : Same H1 (upd H1 T0 (.tup [.int (i : Nat), y])) := Same.new hT0
       have s3 := s2.trans sm
       have g2 := sm _ _ h2
       revert s3 g2
       generalize upd H1 T0 (.tup [.int (i : Nat), y]) = H3
       intro s3 g2
       have bad : chkO (o :: os.drop (i + 1)) i th ov = some i → chkO os 0 [] false = some i := fun h => h3.trans h
       refine ⟨_, rfl, _, rfl, ?_⟩
       cases ov with
       | true =>
         refine ifT rfl (ifT rfl ⟨_, rfl, rfl, fun d hd => K2 i (bad ?_) _ d (s3.trans (Same.new hd)) upd_same⟩)
         cases o with
         | none => rfl
         | some t => unfold chkO; exact if_pos (.inl rfl)
       | false =>
       refine ifF rfl ⟨_, rfl, y, dd, rfl, hd.mono s3, hshd, fun H4 s4 => ⟨_, rfl, ?_⟩⟩
       rw [hdo.form]
       have s5 := s3.trans s4
       have g3 := s4 _ _ g2
       cases o with
       | none => exact ifT rfl (ifT rfl ⟨_, rfl, rfl, fun d hd => K2 i (bad rfl) _ d (s5.trans (Same.new hd)) upd_same⟩)
       | some t =>
       obtain ⟨hkt, rfl⟩ := hdo
       have d3 := hd.mono s5
       obtain ⟨a, rfl, ha⟩ := tk_at d3
       refine ifF rfl ⟨_, rfl, a, _, 0, _, rfl, rfl, ha, atI_zero _ _, rfl, _, rfl, rfl, rfl, _, rfl, ?_⟩
       rw [dec_strV, show decide (V.int (i : Nat) = V.int 0) = decide (i = 0) from decide_eq_decide.mpr ⟨fun h => by injection h with h; omega, fun h => by rw [h]; rfl⟩]
       by_cases hb : decide (t.k = "begin") ≠ decide (i = 0)
       · exact ifT (by simpa using hb) ⟨_, rfl, rfl, fun d hd => K2 i (bad (by unfold chkO; exact if_pos (.inr hb))) _ d (s5.trans (Same.new hd)) upd_same⟩
       refine ifF (by simpa using hb) ?_
       refine ⟨_, rfl, _, rfl, _, t, q, th, rfl, d3, hkt, g3, by omega, _, rfl, ?_⟩
       have hbn : ¬ (false = true ∨ decide (t.k = "begin") ≠ decide (i = 0)) := fun h => h.elim (fun h => by cases h) hb
       by_cases hs : suits t th = true
       · rw [hs]
         have hin : ∀ n, t.n = some n → n < th.length := fun n hn => by
           unfold suits at hs
           rw [hn] at hs
           dsimp only at hs
           cases z : th[n]? with
           | none => rw [z] at hs; cases hs
           | some x => exact (List.getElem?_eq_some_iff.mp z).1
         refine ifF rfl ⟨_, rfl, _, rfl, _, t, q, th, rfl, d3, hkt, g3, by omega, hin, ?_⟩
         refine ⟨_, rfl, a, _, 0, _, rfl, rfl, sqt_updL ha g3, atI_zero _ _, pL, _, rfl, .inr (T.s_LAST _), rfl, flat_strs _, ?_⟩
         have e1 : inV (.str t.k) (sLast.map V.str) = isLast t := inV_st t.k sLast
         rw [e1]
         have h5 := enter_len t th
         refine ⟨enter t th, isLast t, some (.int (i : Nat)), some (.ref a), rfl, Same.updN s5 hq, upd_same, ?_, by omega⟩
         rw [h3]
         conv => lhs; unfold chkO
         rw [if_neg hbn, if_pos hs]
       · have hs' := Bool.eq_false_iff.mpr hs
         rw [hs']
         exact ifT rfl ⟨_, rfl, rfl, fun d hd => K2 i (bad (by unfold chkO; rw [if_neg hbn, if_neg hs])) _ d (s5.trans (Same.new hd)) upd_same⟩
     · rintro σ H' ⟨th, ov, y3, y4, rfl, s2, h2, h3, h4⟩
       rw [List.drop_of_length_le (by omega)] at h3
       exact K1 h3 _ s2
   · rcases hnl with ⟨d, hd, hl⟩ | ⟨p, o, rfl, hp⟩
     · refine ⟨_, rfl, v, _, _, _, _, rfl, .ty _, ty_dp hd, kit_list d, _, rfl, ?_⟩
       have e : isList d = false := by cases d <;> first | rfl | cases hl
       rw [e]
       exact ifT rfl ⟨_, rfl, rfl, fun d hd => k2 _ hr' _ d (Same.new hd) upd_same⟩
     · exact ⟨_, rfl, .ref p, _, _, _, _, rfl, .ty _, TyX.base (.dK hp), kit_ty (show kitB "dict" "list" = some false by decide +kernel), _, rfl, ifT rfl ⟨_, rfl, rfl, fun d hd => k2 _ hr' _ d (Same.new hd) upd_same⟩⟩
end
end Op
namespace HN2
open PySem PySem.Spec PyProof.Rows
section
variable {M : Model} {prog : Program} {w : World} {A : Around} {E : Value → Shared → Prop} {s : Shared} {K : PySem.W.Frag} {x y C f : Addr} {ox : Obj} {od : Option Obj}
end
end HN2
namespace L2
open PySem PySem.Spec PyProof.Rows
structure OwnEq (P : Program) (w : World) (K : PySem.W.Frag) (mg : Str → Option Value) (base : Heap) (k : Nat) (C : Addr) (sp : Sp) : Prop where
 ex : ∃ (f : Addr) (fd : FuncData), PySem.W.findIn K (.ref C) "__eq__" = some (some (.ref f)) ∧ PySem.W.isFn K (.ref f) = true ∧ Binds K fd ["self", "other"] [] ∧ FnOk P w K mg base CX0 k f fd ["self", "other"] sp
 mro : PySem.W.mroIn K C (.type "object") = some true
 ne : PySem.W.findIn K (.ref C) "__ne__" = some (some (.builtin "object.__ne__"))
section
variable {X : Cx} {n : Nat} {sp : Sp} {C : Addr}
end
end L2
set_option pp.maxSteps 500
namespace Op
open PySem L2 PyProof.Rows
structure PgI (K : PySem.W.Frag) (C : Addr) : Prop where
 cls : Cls K C
 ha : PySem.W.findIn K (.ref C) "__class__" = some (some (.builtin "object.__class__"))
 hn : PySem.W.specialIn K (.builtin "object.__class__") "__get__" = some (some (.builtin "getset_descriptor.__get__"))
 ht : PySem.W.takesIn K (.builtin "object.__class__") = some true
 hm : PySem.W.mroIn K C (.type "object") = some true
 ic : PySem.W.isClsIn K C = true
 ty : PySem.W.typeIn K (.ref C) = some (.type "type")
theorem kit_self {K : PySem.W.Frag} {C : Addr} : PySem.W.kitOne K (.ref C) (.ref C) = some true := by
 unfold PySem.W.kitOne
 rw [if_pos (by simp)]
theorem sub_ty {K : PySem.W.Frag} {C : Addr} {n : String} {l : List String} (h : fastBuiltinMro n = some (l.map Value.type)) : PySem.W.subIn K (.type n) (.ref C) = some false := by
 show (fastBuiltinMro n).map (·.contains (.ref C)) = some false
 rw [h]
 show some ((l.map Value.type).contains (.ref C)) = some false
 congr 1
 clear h
 induction l with
 | nil => rfl
 | cons a r ih =>
   rw [List.map_cons, List.contains_cons, ih]
   rfl
theorem kit_of {K : PySem.W.Frag} {C : Addr} (pi : PgI K C) {n : String} {l : List String} (h : fastBuiltinMro n = some (l.map Value.type)) : PySem.W.kitOne K (.type n) (.ref C) = some false := by
 unfold PySem.W.kitOne
 rw [if_neg (by simp)]
 unfold PySem.W.kitCls
 have hi' : (PySem.W.clsIn K C).isSome = true := pi.ic
 simp [pi.ty, hi', sub_ty h]
theorem kit_pg {K : PySem.W.Frag} {C : Addr} (pi : PgI K C) (d : PyData) : PySem.W.kitOne K (.type (tyN d)) (.ref C) = some false := by
 cases d with
 | none => exact kit_of (n := "NoneType") pi (l := ["NoneType", "object"]) (by decide +kernel)
 | bool b => exact kit_of (n := "bool") pi (l := ["bool", "int", "object"]) (by decide +kernel)
 | int b => exact kit_of (n := "int") pi (l := ["int", "object"]) (by decide +kernel)
 | str b => exact kit_of (n := "str") pi (l := ["str", "object"]) (by decide +kernel)
 | list b => exact kit_of (n := "list") pi (l := ["list", "object"]) (by decide +kernel)
 | tuple b => exact kit_of (n := "tuple") pi (l := ["tuple", "object"]) (by decide +kernel)
 | dict b => exact kit_of (n := "dict") pi (l := ["dict", "object"]) (by decide +kernel)
def IsP (H : Hp) (C : Addr) (px : V) : Prop := ∃ x dx fs, px = .ref x ∧ H x = some (.ins C dx fs)
def NoP (K : PySem.W.Frag) (H : Hp) (px : V) : Prop := (∃ d, Dp K H px d) ∨ ∃ p o, px = .ref p ∧ H p = some (.dK o)
theorem IsP.mono {H H' : Hp} {C : Addr} {px : V} (h : IsP H C px) (s : Same H H') : IsP H' C px := let ⟨x, dx, fs, h1, h2⟩ := h; ⟨x, dx, fs, h1, s _ _ h2⟩
theorem NoP.mono {K : PySem.W.Frag} {H H' : Hp} {px : V} (h : NoP K H px) (s : Same H H') : NoP K H' px := by
 rcases h with ⟨d, h⟩ | ⟨p, o, h1, h2⟩
 · exact .inl ⟨d, h.mono s⟩
 · exact .inr ⟨p, o, h1, s _ _ h2⟩
def XArg (H : Hp) (d : Addr) (part : Str) : Prop := H d = some (.xd [("part", .str part)])
structure TxtK (P : Program) (w : World) (K : PySem.W.Frag) (mg : Str → Option Value) (pF pO pN pL CH CA C : Addr) : Prop extends TxtH P w K mg pF pO pN pL CH CA where
 g_Program : mg "Program" = some (.ref C)
 pi : PgI K C
section
variable {P : Program} {w : World} {K : PySem.W.Frag} {mg : Str → Option Value} {base : Heap} {pF pO pN pL CH CA C : Addr}
def spLen (K : PySem.W.Frag) (CH : Addr) : Sp := fun vs H Q X => ∃ (v : V) (r : Except Int (List Tk)), vs = [v] ∧ JH K H v r ∧ (∀ ts, r = .ok ts → ∀ H', Same H H' → Q (.int (((split ts).length : Nat) : Int)) H') ∧ (∀ i, r = .error i → ∀ H' d, Same H H' → XAt H' d i → X (.ref CH) (some d) H')
theorem JH.ok {H : Hp} {v : V} {ts : List Tk} (h : JH K H v (.ok ts)) : ∃ l us, v = .ref l ∧ H l = some (.lst us) ∧ Tks K H us ts ∧ (∀ t ∈ ts, Okt t) ∧ ts.length ≤ 1000 ∧ chkH ts = none := by
 rcases h with ⟨l, us, ds, os, rfl, h2, h3, h4, h5, h6, h7⟩ | ⟨_, h⟩
 · rcases h7 with ⟨i, _, h⟩ | ⟨ts', e1, e2, e3⟩
   · cases h
   · injection e3 with e3
     subst e3
     subst e1
     obtain ⟨g1, g2⟩ := h5.tks
     subst g1
     exact ⟨l, us, rfl, h2, h3, g2, by rw [List.length_map] at h6; exact h6, e2⟩
 · cases h
theorem sc_check : FnScope ["history"] ["history"] (defScope s_check) := ⟨rfl, rfl, rfl, by decide +kernel, rfl, by decide +kernel, by decide +kernel⟩
theorem ok_hcheck {f : Addr} {fd : FuncData} (F : Fun K "check" "check" s_check f fd) (T : Txt mg) (c_check_tokens : Cal P w K mg base (L2.CX P w) 3 "check_tokens" ["history"] (spCheckJ K CH)) (c_split_turns : Cal P w K mg base CX0 2 "split_turns" ["history"] (spSplit K)) : FnOk P w K mg base (L2.CX P w) 4 f fd ["history"] (spLen K CH) := by
 refine F.okX sc_check (fun vs H Q E h => ?_) (fun cdv A outer s H vs Q E hr h => ?_)
 · obtain ⟨v, r, rfl, _⟩ := h
   rfl
 · obtain ⟨v, r, rfl, hj, k1, k2⟩ := h
   refine ⟨_, (pss_cons (ps_expr (pe_cal c_check_tokens (hr.mono (by omega)) rfl (passes_call (takes_of rfl rfl rfl rfl) (fun _ _ _ _ h => h)) (pa_cons (pv 0) pa_nil)))
     (pss_one (ps_ret (pe_callB call_len_seq (by rfl) T.b_len (by decide +kernel) (pa_cons (pe_cal c_split_turns (hr.mono (by omega)) rfl pass0 (pa_cons (pv 0) pa_nil)) pa_nil))))), ?_⟩
   refine ⟨_, rfl, v, r, rfl, hj, fun ts e H1 s1 => ?_, k2⟩
   subst e
   obtain ⟨l, us, rfl, h1, h2, h3, h4, h5⟩ := hj.ok
   refine ⟨_, rfl, l, us, ts, rfl, s1 _ _ h1, h2.mono s1, h4, chk_out h5, fun q H2 s2 t2 => ?_⟩
   obtain ⟨ps, p1, p2, _⟩ := t2.r
   refine ⟨q, _, rfl, .inl (.inl (.inl p1)), ?_⟩
   rw [List.length_map, p2]
   exact k1 ts rfl _ (s1.trans s2)
def spCkP (K : PySem.W.Frag) (CA C : Addr) : Sp := fun vs H Q X => ∃ (px : V) (z : Str), vs = [px, .str z] ∧ ((IsP H C px ∧ Q .non H) ∨ (NoP K H px ∧ ∀ H' d, Same H H' → XArg H' d z → X (.ref CA) (some d) H'))
theorem sc_check_program : FnScope ["value", "part"] ["value", "part"] (defScope s_check_program) := ⟨rfl, rfl, rfl, by decide +kernel, rfl, by decide +kernel, by decide +kernel⟩
theorem ok_check_program {f : Addr} {fd : FuncData} (F : Fun K "check_program" "check_program" s_check_program f fd) (T : TxtK P w K mg pF pO pN pL CH CA C) : FnOk P w K mg base (L2.CX P w) 1 f fd ["value", "part"] (spCkP K CA C) := by
 refine F.okX sc_check_program (fun vs H Q E h => ?_) (fun cdv A outer s H vs Q E hr h => ?_)
 · obtain ⟨px, z, rfl, _⟩ := h
   rfl
 · obtain ⟨px, z, rfl, h⟩ := h
   refine ⟨_, (pss_one (ps_if (pt_not (pt_val (pe_callB call_isi (by rfl) T.b_isinstance (by decide +kernel) (pa_cons (L2.pv 0) (pa_cons (pe_gref rfl T.g_Program) pa_nil))))) (pss_one (ps_raise rfl (takes_of rfl rfl rfl rfl) (pmk_x T.mk_InvalidArgument hr rfl T.g_InvalidArgument T.k_InvalidArgument T.r_InvalidArgument (pa_cons (L2.pv 1) pa_nil)))) pss_nil)), ?_⟩
   rcases h with ⟨⟨x, dx, fs, rfl, hx⟩, k⟩ | ⟨⟨d, hd⟩ | ⟨p, o, rfl, hp⟩, k⟩
   · exact ⟨_, rfl, .ref x, .ref C, .ref C, .ref C, true, rfl, .own C, .base (.ins hx T.pi.cls T.pi.ha T.pi.hn T.pi.ht T.pi.hm), kit_self, _, rfl, ifF rfl k⟩
   · exact ⟨_, rfl, px, .ref C, _, .ref C, false, rfl, .own C, ty_dp hd, kit_pg T.pi d, _, rfl, ifT rfl ⟨_, rfl, rfl, fun d hd => k _ d (Same.new hd) upd_same⟩⟩
   · exact ⟨_, rfl, .ref p, .ref C, _, .ref C, false, rfl, .own C, TyX.base (.dK hp), kit_of T.pi (l := ["dict", "object"]) (by decide +kernel), _, rfl, ifT rfl ⟨_, rfl, rfl, fun d hd => k _ d (Same.new hd) upd_same⟩⟩
end
end Op
namespace L2
open PySem PySem.Spec PyProof.Rows
def tWGet (K : PySem.W.Frag) (w : World) (to te : TE) : TE := fun σ H Q => to σ H fun x H1 => ∃ p tab, x = .ref p ∧ WTab K w p tab ∧ tCons te tNil σ H1 fun vs H2 => ∃ z, vs = [.str z] ∧ Q ((tab.lookup z).getD .non) H2
section
variable {X : Cx} {o e : Expr} {to te : TE} {apos cpos : Pos}
theorem pe_wget (ho : PE X o to) (he : PE X e te)
   (hbase : attributeBase o "get" X.env (eval o X.env) = eval o X.env := by rfl)
   (hfew : ((backTo cpos (starEach [e] X.env)).all (fun x => !x.1) && (backToKw cpos (keywordEach [] X.env)).all (fun x => x.1.isSome)
     && decide ([e].length + ([] : List Keyword).length + (if ([] : List Keyword).isEmpty then 0 else 1) < 30)) = true := by rfl)
   (hline : (apos.endLine == cpos.line) = true := by rfl) (hs : starEach [e] X.env = (false, eval e X.env) :: starEach [] X.env := by rfl) (hplain : (backTo cpos (starEach [] X.env)).any (·.1) = false := by rfl) :
   PE X (.Call (.Attribute o "get" apos) [e] [] cpos) (tWGet X.K X.w to te) := by
 refine ⟨fun pins s σ H Q I h => ?_⟩
 refine wpAny_Call_method_late hbase hfew hline rfl (thn (ho.run pins s σ H _ I h) fun v s1 ⟨x, H1, I1, r1, p, tab, ex, T, q1⟩ => ?_)
 subst ex
 cases (show v = Value.ref p from r1)
 have T0 := T
 obtain ⟨es, n, hl, hes, lo⟩ := T
 refine ⟨"dict", "dict.get", PySem.F.plainAttrs_dict, PySem.F.slot_dict_get, PySem.F.type_dict_get, ⟨_, I1.kIn p _ hl, rfl⟩, fun a ea => ?_, ?_⟩
 · cases ea
   exact ⟨_, I1.kIn p _ hl, rfl⟩
 have hA := (pa_cons he pa_nil hs).run cpos pins s1 σ H1 _ I1 q1
 rw [hs] at hA ⊢
 refine Calls.callWith_builtin (by show (false || (backTo cpos (starEach [] X.env)).any (·.1)) = false; rw [hplain] <;> rfl) (Calls.evalArgs_plain ?_)
 refine thn hA fun us s2 ⟨vs, H2, I2, r2, z, ez, q2⟩ => ?_
 subst ez
 obtain ⟨u, rfl, t, rfl⟩ := vals1 r2
 obtain ⟨r, er, rel⟩ := T0.ns z
 have hm := PySem.W.mapOf_K (prog := X.prog) (w := X.w) I2.kIn hl hes.lit
 have dd : s2.TypeIs (.ref p) "dict" := ⟨_, I2.kIn p _ hl, rfl⟩
 refine call_meetsIn PySem.F.slot_dict_get dd PySem.F.entry_dict_get (PySem.F.args_dict_get_2 _ _) (meets_dict_get (strKind X.prog X.w) p (strKind_is X.prog X.w z t) lo) ⟨_, hm, ?_⟩
 rw [PySem.W.find_K hl er]
 refine ⟨_, H2, I2.tok _, ?_, q2⟩
 cases h1 : tab.lookup z with
 | none =>
   rw [h1] at rel
   cases r with
   | none => rfl
   | some r => exact rel.elim
 | some x =>
   rw [h1] at rel
   cases r with
   | none => exact rel.elim
   | some r => exact rel
end
end L2
namespace L2
open PySem PySem.Spec PyProof.Rows
def ItzP (K : PySem.W.Frag) (b : Addr) (x : Str) : It :=
 ⟨fun i H => ∃ (ys : List V) (c : Nat) (y : V), SqL K H b ys ∧ x.cps[i]? = some c ∧ ys[i]? = some y ∧ i ≤ x.cps.size ∧ i ≤ ys.length,
   fun i H v H' => ∃ T c y, v = .ref T ∧ H T = none ∧ H' = upd H T (.tup [y, .str ⟨#[c]⟩]) ∧ x.cps[i]? = some c ∧ ∀ ys, SqL K H b ys → ys[i]? = some y,
   fun i H => ∃ ys : List V, SqL K H b ys ∧ i ≤ x.cps.size ∧ i ≤ ys.length ∧ (i = x.cps.size ∨ i = ys.length)⟩
theorem turn_zipP {P : Program} {w : World} {K : PySem.W.Frag} {elts : List Expr} {kk : Nat} {tpos : Pos} {b z TI TO i1 i2 : Addr} {x : Str} {t : Tok} {ty : String} (hty : ty = "str_ascii_iterator" ∨ ty = "str_iterator") (D : ZipSep2 z TI TO i1 i2 [i1, b] [i2]) (hb : b ≠ i1) :
   Turn P w K (.Tuple elts kk tpos) (ItzP K b x) [z, TI, TO, i1, i2] z (fun i h => IsZip h z TI TO .none ∧ IsTupOf2 h TI (.ref i1) (.ref i2) ∧ (∃ x y, IsTupOf2 h TO x y) ∧ h.IsListIter i1 b i ∧ h.IsStrIter i2 ty x t i) where
 mem := by simp
 obj := fun i h st c hc => by
   obtain ⟨hz, hTI, ⟨x, y, hTO⟩, ⟨o1, e1, _, d1⟩, ⟨o2, e2, _, d2⟩⟩ := st
   have e' : c = z ∨ c = TI ∨ c = TO ∨ c = i1 ∨ c = i2 := by simpa using hc
   rcases e' with q | q | q | q | q
   · rw [q]; exact ⟨_, hz, fun v q => nomatch q⟩
   · rw [q]; exact ⟨_, hTI, fun v q => nomatch q⟩
   · rw [q]; exact ⟨_, hTO, fun v q => nomatch q⟩
   · rw [q]; exact ⟨o1, e1, fun v q => by rw [d1] at q; cases q⟩
   · rw [q]; exact ⟨o2, e2, fun v q => by rw [d2] at q; cases q⟩
 keep := fun i h h' st k => by
   obtain ⟨hz, hTI, ⟨x, y, hTO⟩, h1, ⟨o, ho, r⟩⟩ := st
   exact ⟨k z (by simp) _ hz, k TI (by simp) _ hTI, ⟨x, y, k TO (by simp) _ hTO⟩, h1.at fun o q => k i1 (by simp) o q, ⟨o, k i2 (by simp) o ho, r⟩⟩
 item := by
   intro X hP hw hK hc i pins s σ H E I hf st hg
   subst hP hw hK
   obtain ⟨hz, hTI, ⟨x0, y0, hTO⟩, h1, h2⟩ := st
   obtain ⟨ys, c, y, hqy, hx, hy, l1, l2⟩ := hg
   obtain ⟨its2, rv2, p2, _⟩ := I.list hqy
   obtain ⟨u2, hu2, ru2⟩ := rv2.get hy
   have hzl : z < s.heap.objs.size := Heap.lt_size hz
   have hlt1 : i < x.cps.size := (Array.getElem?_eq_some_iff.mp hx).1
   have hlt2 : i < its2.toArray.size := by simpa using (List.getElem?_eq_some_iff.mp hu2).1
   have d1 := Draws.list (prog := X.prog) (w := X.w) (A := X.A.in1) (I.ok.hd hc) i1 b hb its2.toArray
   have d2 := draws_text (prog := X.prog) (w := X.w) (A := X.A.in1) (I.ok.hd hc) i2 x t ty hty
   refine wpAny_pyNext_zipD2_item (St1 := fun i h => h.IsListIter i1 b i ∧ h.IsList b its2.toArray) (St2 := fun i h => h.IsStrIter i2 ty x t i) D d1 d2 hz hTI hTO ⟨h1, p2.isList⟩ h2 hlt2 hlt1 fun x1 x2 h' tk q2 q1 z' TO' h1' h2' hT hsz hk => ?_
   obtain ⟨c', u, hc', rfl⟩ := q1
   rw [hx] at hc'
   cases hc'
   have hx2 : x1 = u2 := by
     have q2' : its2[i]? = some x1 := by simpa using q2
     rw [hu2] at q2'
     exact (Option.some.inj q2').symm
   subst hx2
   refine ⟨_, rfl, wpAny_letOwnedTupleGo_zip (s := { s with heap := h', toks := tk }) z' fun h'' z'' sb => ?_⟩
   have hT2 : h''.get? s.heap.objs.size = some { cls := .type "tuple", data := .seq #[x1, .str ⟨#[c]⟩ u] } := (sb.2 _ (Nat.ne_of_gt hzl)).trans hT
   have new : ObjOk X.prog X.w (upd H s.heap.objs.size (.tup [y, .str ⟨#[c]⟩])) h'' s.heap.objs.size (.tup [y, .str ⟨#[c]⟩]) :=
     ⟨by show 2 ≤ sizeLine; decide, [x1, .str ⟨#[c]⟩ u], .cons ru2 (.cons ⟨u, rfl⟩ .nil), ⟨_, hT2, rfl, _, rfl⟩⟩
   have I1 : Inv X pins σ (upd H s.heap.objs.size (.tup [y, .str ⟨#[c]⟩])) { s with heap := h'', toks := tk } :=
     I.turnedNew (t' := tk) (ch := [z, TI, TO, i1, i2]) (fun c o hb q => (sb.2 c (fun q' => hb (by simp [q']))).trans (hk c o (fun q' => hb (by simp [q'])) (fun q' => hb (by simp [q'])) (fun q' => hb (by simp [q'])) (fun q' => hb (by simp [q'])) q)) hf (Nat.le_refl _) new
   refine ⟨.ref s.heap.objs.size, _, I1, rfl, ⟨_, c, y, rfl, I.hok.fresh (Nat.le_refl _), rfl, hx, fun l hl => by rw [I.list_inj hl hqy]; exact hy⟩, ⟨z'', ?_, ⟨x1, .str ⟨#[c]⟩ u, ?_⟩, ?_, ?_⟩, fun c hcm => ?_⟩
   · exact (sb.2 _ D.TIz).trans (hk _ _ D.TIz D.TITO D.TIi1 D.TIi2 hTI)
   · exact (sb.2 _ D.TOz).trans TO'
   · exact h1'.1.at fun o q => (sb.2 _ D.zi1.symm).trans q
   · obtain ⟨o, ho, r⟩ := h2'
     exact ⟨o, (sb.2 _ D.zi2.symm).trans ho, r⟩
   · have hlt : c < s.heap.objs.size := by
       have e' : c = z ∨ c = TI ∨ c = TO ∨ c = i1 ∨ c = i2 := by simpa using hcm
       rcases e' with q | q | q | q | q
       · rw [q]; exact hzl
       · rw [q]; exact Heap.lt_size hTI
       · rw [q]; exact Heap.lt_size hTO
       · rw [q]; obtain ⟨_, e1, _⟩ := h1; exact Heap.lt_size e1
       · rw [q]; obtain ⟨_, e2, _⟩ := h2; exact Heap.lt_size e2
     rw [upd_ne (Nat.ne_of_lt hlt)]
     exact (hf c hcm).1
 done := by
   intro X hP hw hK hc i pins s σ H E I hf st hg
   subst hP hw hK
   obtain ⟨hz, hTI, ⟨x0, y0, hTO⟩, h1, h2⟩ := st
   obtain ⟨ys, hqy, l1, l2, hend⟩ := hg
   obtain ⟨its2, rv2, p2, _⟩ := I.list hqy
   have ll := rv2.length
   have l2' : i ≤ its2.toArray.size := by simp; omega
   have he : i = x.cps.size ∨ i = its2.toArray.size := by
     rcases hend with q | q
     · exact .inl q
     · exact .inr (by simp; omega)
   have d1 := Draws.list (prog := X.prog) (w := X.w) (A := X.A.in1) (I.ok.hd hc) i1 b hb its2.toArray
   have d2 := draws_text (prog := X.prog) (w := X.w) (A := X.A.in1) (I.ok.hd hc) i2 x t ty hty
   exact wpAny_pyNext_zipD2_end (St1 := fun i h => h.IsListIter i1 b i ∧ h.IsList b its2.toArray) (St2 := fun i h => h.IsStrIter i2 ty x t i) D d1 d2 hz hTI hTO ⟨h1, p2.isList⟩ h2 l2' l1 (he.symm) fun h' tk hk => ⟨rfl, I.turnedL (t' := tk) (ch := [z, TI, TO, i1, i2]) (fun c o hb q =>
     hk c o (fun q' => hb (by simp [q'])) (fun q' => hb (by simp [q'])) (fun q' => hb (by simp [q'])) (fun q' => hb (by simp [q'])) q) hf⟩
 self := fun A i s Q E st h => wpAny_pyIter_zip st.1 h
def iZipP (K : PySem.W.Frag) (ta : TA) : TI := fun σ H R => ta σ H fun vs H1 => ∃ (x : Str) (b : Addr) (ys : List V), vs = [.ref b, .str x] ∧ SqL K H1 b ys ∧ R (ItzP K b x) H1
theorem pi_zipP {X : Cx} {e e2 : Expr} {ta : TA} {p pos tpos : Pos} {elts : List Expr} {kk : Nat} (hg : Gl X "zip") (hm : X.mg "zip" = none) (ha : PA X [e, e2] ta)
   (hs : starEach [e, e2] X.env = (false, eval e X.env) :: starEach [e2] X.env := by rfl) (hpl : (backTo pos (starEach [e2] X.env)).any (·.1) = false := by rfl) :
   PI X (.Tuple elts kk tpos) (.Call (.Name "zip" p) [e, e2] [] pos) (iZipP X.K ta) := by
 refine ⟨fun pins s σ H R I h => ?_⟩
 refine Call_ (ld_blt I hg hm PyProof.Rows.boot_zip (PyProof.Rows.callWith_type1 (thn (ha.run pos pins s σ H _ I h) fun us s1 ⟨vs, H1, I1, r1, q1⟩ => ?_) hs hpl))
 obtain ⟨x, b, ys, ex, hqy, q⟩ := q1
 subst ex
 obtain ⟨u1, u2, rfl, r, r'⟩ := vals2 r1
 cases r
 obtain ⟨t, rfl⟩ := r'
 have fresh5 : ∀ c, c ∈ [s1.heap.objs.size + 4, s1.heap.objs.size + 2, s1.heap.objs.size + 3, s1.heap.objs.size, s1.heap.objs.size + 1] → FpOk X pins H1 c := fun c hcm => by
   have e' : c = s1.heap.objs.size + 4 ∨ c = s1.heap.objs.size + 2 ∨ c = s1.heap.objs.size + 3 ∨ c = s1.heap.objs.size ∨ c = s1.heap.objs.size + 1 := by simpa using hcm
   have hle : s1.heap.objs.size ≤ c := by omega
   exact I1.fpOk hle (I1.hok.fresh hle)
 obtain ⟨its2, rv2, p2, _⟩ := I1.list hqy
 have hblt := p2.lt
 refine zip_begins2 (begins_list b its2.toArray) (begins_text x t) p2.isList trivial fun h' hz hTI hTO h1 h2 hsz hk => wpAny_pyIter_zip hz ?_
 have I2 : Inv X pins σ H1 { s1 with heap := h' } := I1.kept (t' := s1.toks) hk
 have sep := zip_sep2 (N := s1.heap.objs.size) (fp1 := [b]) (fp2 := []) (fun c q => by
   have e : c = b := by simpa using q
   rw [e]; exact hblt) (fun _ q => nomatch q)
 have hty : strIterType x = "str_ascii_iterator" ∨ strIterType x = "str_iterator" := by
   unfold strIterType
   split
   · exact .inl rfl
   · exact .inr rfl
 exact ⟨s1.heap.objs.size + 4, [s1.heap.objs.size + 4, s1.heap.objs.size + 2, s1.heap.objs.size + 3, s1.heap.objs.size, s1.heap.objs.size + 1], _, _, H1, rfl, I2, turn_zipP (x := x) (t := t) hty sep (Nat.ne_of_lt hblt), ⟨hz, hTI, ⟨_, _, hTO⟩, ⟨_, h1, rfl, rfl⟩, ⟨_, h2, rfl, rfl⟩⟩, fresh5, q⟩
theorem for_zipP {K : PySem.W.Frag} {b : Addr} {x : Str} {ys : List V} {g : TG} {tb : TS} {D : Ends} {σ : L2.St} {H : Hp} (hl : x.cps.size = ys.length) (Pv : Nat → L2.St → Hp → Prop) (h0 : Pv 0 σ H) (hq : ∀ i σ H, Pv i σ H → SqL K H b ys)
   (hs : ∀ (i c : Nat) (y : V) (T : Addr) (σ : L2.St) (H : Hp), x.cps[i]? = some c → ys[i]? = some y → Pv i σ H → H T = none → g (.ref T) σ (upd H T (.tup [y, .str ⟨#[c]⟩])) fun σ2 H2 => tb { D with nx := Pv (i + 1), ct := Pv (i + 1), bk := D.nx } σ2 H2) (hd : ∀ σ H, Pv ys.length σ H → D.nx σ H) :
   ∃ W : Nat → Nat → L2.St → Hp → Prop, (∃ m, W 0 m σ H) ∧ ∀ i m σ H, W i m σ H →
     ((ItzP K b x).stop i H ∧ D.nx σ H) ∨ ((ItzP K b x).go i H ∧ ∃ N : L2.St → Hp → Prop, (∀ σ' H', N σ' H' → ∃ m', m' < m ∧ W (i + 1) m' σ' H') ∧ ∀ v H', (ItzP K b x).yld i H v H' → g v σ H' fun σ2 H2 => tb { D with nx := N, ct := N, bk := D.nx } σ2 H2) := by
 refine ⟨fun i m σ H => m = ys.length - i ∧ i ≤ ys.length ∧ Pv i σ H, ⟨ys.length, rfl, Nat.zero_le _, h0⟩, ?_⟩
 rintro i m σ H ⟨rfl, hi, p⟩
 have qy := hq i σ H p
 by_cases hlt : i < ys.length
 · have hy : ys[i]? = some ys[i] := List.getElem?_eq_getElem hlt
   have hx : x.cps[i]? = some (x.cps[i]'(by omega)) := Array.getElem?_eq_getElem _
   refine .inr ⟨⟨ys, _, _, qy, hx, hy, by omega, hi⟩, Pv (i + 1), fun σ' H' p' => ⟨ys.length - (i + 1), by omega, rfl, hlt, p'⟩, fun v H' y => ?_⟩
   obtain ⟨T, c, y', rfl, hT, rfl, f1, f2⟩ := y
   exact hs i c y' T σ H f1 (f2 ys qy) p hT
 · have e : i = ys.length := by omega
   subst e
   exact .inl ⟨⟨ys, qy, by omega, Nat.le_refl _, .inr rfl⟩, hd σ H p⟩
end L2
set_option pp.maxSteps 500
namespace Op
open PySem L2 TL PyProof.Rows
theorem cut1d (xs : List V) : cutV xs (some 1) none = xs.drop 1 := by
 cases xs with
 | nil => simp [cutV]
 | cons v r => exact cut1T v r
theorem same_no {H H' : Hp} {a : Addr} (s : Same H H') (h : H' a = none) : H a = none := by
 cases e : H a with
 | none => rfl
 | some o => rw [s _ _ e] at h; cases h
theorem same_updN {H H' : Hp} {a : Addr} {o : HO} (s : Same H H') (h : H a = none) : Same H (L2.upd H' a o) := fun b u e => by rw [L2.upd_ne (ne_of_none e h)]; exact s b u e
structure TxtT (P : Program) (w : World) (K : PySem.W.Frag) (mg : Str → Option Value) (pU pC CT CA : Addr) : Prop extends Txt mg where
 g_OUTER_PARTS : mg "OUTER_PARTS" = some (.ref pU)
 w_OUTER_PARTS : WTab K w pU (outP.map fun p => (p.1, .str p.2))
 g_COMMAND_PARTS : mg "COMMAND_PARTS" = some (.ref pC)
 w_COMMAND_PARTS : WTab K w pC (cmdP.map fun p => (p.1, .str p.2))
 g_DIGITS : ∃ t, mg "DIGITS" = some (.str digits t)
 g_InvalidText : mg "InvalidText" = some (.ref CT)
 k_InvalidText : PySem.W.keepIn K (.ref CT) = true
 mk_InvalidText : XMk P w K CT 1 [] (fun vs _ => [("line", vs.headD .non)])
 r_InvalidText : ∀ (M : Model) (h : Heap), K.In h → PySem.W.Looks M h (isSubtype (.ref CT) (.type "BaseException")) true ∧ PySem.W.Looks M h (typeOf (.ref CT)) (.type "type")
 g_InvalidArgument : mg "InvalidArgument" = some (.ref CA)
 k_InvalidArgument : PySem.W.keepIn K (.ref CA) = true
 mk_InvalidArgument : XMk P w K CA 1 [] (fun vs _ => [("part", vs.headD .non)])
 r_InvalidArgument : ∀ (M : Model) (h : Heap), K.In h → PySem.W.Looks M h (isSubtype (.ref CA) (.type "BaseException")) true ∧ PySem.W.Looks M h (typeOf (.ref CA)) (.type "type")
end Op
set_option pp.maxSteps 500
namespace Op
open PySem L2 TL PyProof.Rows
theorem hd_at {z : Str} (h : 1 ≤ z.length) : atI z.cps.toList (0 : Int) = some (z.cps.toList.headD 0) := by
 have e : z.length = z.cps.toList.length := len_tl z
 revert e
 cases z.cps.toList with
 | nil => intro e; rw [List.length_nil] at e; omega
 | cons a r => intro _; exact atI_zero _ _
theorem one_strG (c d : Nat) : decide (V.str ⟨#[c]⟩ = V.str ⟨#[d]⟩) = decide (c = d) := decide_eq_decide.mpr ⟨fun h => by
 injection h with h
 injection h with h
 have := congrArg Array.toList h
 injection this, fun h => by rw [h]⟩
theorem one_str (c : Nat) : decide (V.str ⟨#[c]⟩ = V.str "0") = decide (c = 48) := one_strG c 48
theorem zip_take {α β : Type} {l : List α} {m : List β} {i : Nat} {x : α} {y : β} (hx : l[i]? = some x) (hy : m[i]? = some y) : (l.zip m).take (i + 1) = (l.zip m).take i ++ [(x, y)] ∧ l.zip m = (l.zip m).take i ++ (x, y) :: (l.zip m).drop (i + 1) := by
 have h : (l.zip m)[i]? = some (x, y) := by
   rw [List.getElem?_zip_eq_some]
   exact ⟨hx, hy⟩
 refine ⟨TS.take_one h, ?_⟩
 conv => lhs; rw [← List.take_append_drop i (l.zip m)]
 rw [drop_one h]
section
variable {P : Program} {w : World} {K : PySem.W.Frag} {mg : Str → Option Value} {base : Heap} {pU pC CT CA CH : Addr}
def spNumLike : Sp := fun vs H Q _ => ∃ z : Str, vs = [.str z] ∧ z.length ≤ 100000 ∧ Q (.bl (numLike z)) H
theorem sc_number_like : FnScope ["text", "char"] ["text"] (defScope s_number_like) := ⟨rfl, rfl, rfl, by decide +kernel, rfl, by decide +kernel, by decide +kernel⟩
theorem ok_number_like {f : Addr} {fd : FuncData} (F : Fun K "number_like" "number_like" s_number_like f fd) (T : TxtT P w K mg pU pC CT CA) : FnOk P w K mg base CX0 1 f fd ["text"] spNumLike := by
 refine F.ok sc_number_like (fun vs H Q E h => ?_) (fun cdv A outer s H vs Q E hr h => ?_)
 · obtain ⟨z, rfl, _⟩ := h
   rfl
 · obtain ⟨z, rfl, hz, k⟩ := h
   obtain ⟨tk, hL⟩ := T.g_DIGITS
   unfold numLike at k
   have hsz : z.length ≤ sizeLine := by rw [sizeLine_eq]; omega
   refine ⟨_, (Evl.pss_cut (ps_if (PW.pt (pw_or (pt_cmpR op_lt (pe_callB call_len_str (by rfl) T.b_len (by decide +kernel) (pa_cons (pv 0) pa_nil)) pe_int (nomark _)) (pw_or (pt_cmpR op_gt (pe_callB call_len_str (by rfl) T.b_len (by decide +kernel) (pa_cons (pv 0) pa_nil)) pe_int (nomark _)) (pw_or1 (PW.pt (pw_and (pt_cmpR op_eq (pe_ix ix_str (pv 0) pe_int (fun _ _ => rfl)) pe_str (nomark _)) (pw_and1 (pt_cmpR op_gt (pe_callB call_len_str (by rfl) T.b_len (by decide +kernel) (pa_cons (pv 0) pa_nil)) pe_int (nomark _))))))))) (pss_one (ps_ret pe_bl)) pss_nil)
     (pss_cons (ps_for PassesOwn.never rfl (pi_str (pv 0)) (pg_name (i := 1) sc_number_like.nd rfl (.inl rfl)) (pss_one (ps_if (pt_cmpR op_notIn_sign (pv 1) (pe_glob (v := .str digits) rfl hL ⟨_, rfl⟩) (by rfl)) (pss_one (ps_ret pe_bl)) pss_nil)))
     (pss_one (ps_ret pe_bl)))), ?_⟩
   refine ⟨fun σ H' => H' = H ∧ σ = [some (.str z), none] ∧ (1 ≤ z.length ∧ z.length ≤ 5) ∧ (decide (z.cps.toList.headD 0 = 48) && decide (1 < z.length)) = false, ?_, ?_⟩
   · refine ⟨_, rfl, z, rfl, hsz, _, _, rfl, rfl, _, rfl, ?_⟩
     by_cases h1 : (z.length : Int) < 1
     · refine ifT (decide_eq_true h1) ?_
       rw [decide_eq_false (fun h => by omega), Bool.false_and] at k
       exact k
     refine ifF (decide_eq_false h1) ⟨_, rfl, z, rfl, hsz, _, _, rfl, rfl, _, rfl, ?_⟩
     by_cases h2 : (5 : Int) < z.length
     · refine ifT (decide_eq_true h2) ?_
       rw [decide_eq_false (fun h => by omega), Bool.false_and] at k
       exact k
     refine ifF (decide_eq_false h2) ?_
     have h3 : 1 ≤ z.length ∧ z.length ≤ 5 := ⟨by omega, by omega⟩
     rw [decide_eq_true h3, Bool.true_and] at k
     refine ⟨_, rfl, z, 0, _, rfl, rfl, hsz, hd_at (by omega), rfl, _, rfl, ?_⟩
     rw [one_str]
     by_cases h4 : z.cps.toList.headD 0 = 48
     · refine ifT (decide_eq_true h4) ⟨_, rfl, z, rfl, hsz, _, _, rfl, rfl, _, rfl, ?_⟩
       by_cases h5 : (1 : Int) < z.length
       · refine ifT (decide_eq_true h5) ?_
         rw [decide_eq_true h4, decide_eq_true (show 1 < z.length by omega)] at k
         exact k
       · exact ifF (decide_eq_false h5) ⟨rfl, rfl, h3, by rw [decide_eq_false (show ¬ 1 < z.length by omega), Bool.and_false]⟩
     · exact ifF (decide_eq_false h4) ⟨rfl, rfl, h3, by rw [decide_eq_false h4, Bool.false_and]⟩
   · rintro _ G0 ⟨rfl, rfl, h3, h4⟩
     rw [decide_eq_true h3, h4, Bool.true_and, Bool.not_false, Bool.true_and] at k
     refine ⟨_, rfl, z, rfl, ?_⟩
     refine for_it (walk_str (z := z)) (fun i σ H' => H' = G0 ∧ (∃ y, σ = [some (.str z), y]) ∧ ((z.cps.toList.take i).all fun c => decide (c ∈ digits.cps.toList)) = true) ⟨rfl, ⟨_, rfl⟩, rfl⟩ (fun _ _ _ _ _ => trivial) ?_ ?_
     · rintro i x σ G1 G2 hi ⟨rfl, ⟨y, rfl⟩, ha⟩ ⟨rfl, c, hc, rfl⟩
       have hc' : z.cps.toList[i]? = some c := by rw [Array.getElem?_toList]; exact hc
       refine ⟨_, rfl, c, _, rfl, rfl, _, rfl, ?_⟩
       by_cases hd : c ∈ digits.cps.toList
       · refine ifF (by rw [decide_eq_true hd]; rfl) ⟨rfl, ⟨_, rfl⟩, ?_⟩
         rw [TS.take_one hc', List.all_append, ha, List.all_cons, decide_eq_true hd]
         rfl
       · refine ifT (by rw [decide_eq_false hd]; rfl) ?_
         have : (z.cps.toList.all fun c => decide (c ∈ digits.cps.toList)) = false := by
           refine Bool.eq_false_iff.mpr fun e => hd (of_decide_eq_true (List.all_eq_true.mp e c (List.mem_of_getElem? hc')))
         rw [this] at k
         exact k
     · rintro σ G1 ⟨rfl, ⟨y, rfl⟩, ha⟩
       rw [List.take_of_length_le (by rw [Array.length_toList]; exact Nat.le_refl _)] at ha
       rw [ha] at k
       exact k
def tabV (tab : List (Str × Str)) : List (Str × V) := tab.map fun p => (p.1, V.str p.2)
theorem tabV_look (x : Str) (l : List (Str × Str)) : (tabV l).lookup x = (l.lookup x).map V.str := by
 unfold tabV
 induction l with
 | nil => rfl
 | cons p r ih =>
   obtain ⟨a, b⟩ := p
   simp only [List.map_cons, List.lookup_cons]
   cases x == a with
   | true => rfl
   | false => exact ih
theorem look_len {tab : List (Str × Str)} (ht : tab = outP ∨ tab = cmdP) {z f : Str} (h : tab.lookup z = some f) : f.length ≤ 2 := by
 have hm := look_mem h
 rcases ht with rfl | rfl
 · have : ∀ p ∈ outP, p.2.length ≤ 2 := by decide +kernel
   exact this _ hm
 · have : ∀ p ∈ cmdP, p.2.length ≤ 2 := by decide +kernel
   exact this _ hm
def spTokenOf (K : PySem.W.Frag) : Sp := fun vs H Q _ => ∃ z : Str, vs = [.str z] ∧ z.length ≤ 100000 ∧ (tokV z = none → ∀ H', Same H H' → Q .non H') ∧ (∀ xs, tokV z = some xs → ∀ p H', Same H H' → H' p = some (.tup xs) → Q (.ref p) H')
theorem sc_token_of : FnScope ["line", "words", "shape", "parts", "word", "sign"] ["line"] (defScope s_token_of) := ⟨rfl, rfl, rfl, by decide +kernel, rfl, by decide +kernel, by decide +kernel⟩
theorem ok_token_of {f : Addr} {fd : FuncData} (F : Fun K "token_of" "token_of" s_token_of f fd) (T : TxtT P w K mg pU pC CT CA) (c_number_like : Cal P w K mg base CX0 1 "number_like" ["text"] spNumLike) (c_is_word : Cal P w K mg base CX0 1 "is_word" ["value"] (spWord K)) : FnOk P w K mg base CX0 2 f fd ["line"] (spTokenOf K) := by
 refine F.ok sc_token_of (fun vs H Q E h => ?_) (fun cdv A outer s H vs Q E hr h => ?_)
 · obtain ⟨z, rfl, _⟩ := h
   rfl
 · obtain ⟨z, rfl, hz, kn, k⟩ := h
   have hsz : z.length ≤ sizeLine := by rw [sizeLine_eq]; omega
   refine ⟨_, (Evl.pss_cut (ps_if (pt_val (pe_m1 PySem.F.slot_str_startswith PySem.F.type_str_startswith mt_startswith (pv 0) pe_str)) (pss_cons (ps_set (i := 1) sc_token_of.nd rfl (.inl rfl) (pe_split (pe_slice sl_str (pv 0) (po_some pe_int) po_none) pe_str))
     (pss_one (ps_set (i := 2) sc_token_of.nd rfl (.inl rfl) (pe_wget (pe_gref rfl T.g_COMMAND_PARTS) (pe_ix ix_list (pv 1) pe_int (fun _ _ => rfl)))))) (pss_cons (ps_set (i := 1) sc_token_of.nd rfl (.inl rfl) (pe_split (pv 0) pe_str))
     (pss_one (ps_set (i := 2) sc_token_of.nd rfl (.inl rfl) (pe_wget (pe_gref rfl T.g_OUTER_PARTS) (pe_ix ix_list (pv 1) pe_int (fun _ _ => rfl)))))))
     (pss_cons (ps_if (PW.pt (pw_or (pt_cmpR op_isN (pv 2) pe_non (nomark _)) (pw_or1 (pt_cmpR op_ne (pe_callB call_len_seq (by rfl) T.b_len (by decide +kernel) (pa_cons (pv 1) pa_nil)) (pe_op op_add (pe_callB call_len_str (by rfl) T.b_len (by decide +kernel) (pa_cons (pv 2) pa_nil)) pe_int) (nomark _))))) (pss_one (ps_ret pe_non)) pss_nil)
     (pss_cons (ps_set (i := 3) sc_token_of.nd rfl (.inl rfl) (pe_lst (pa_cons (pe_ix ix_list (pv 1) pe_int (fun _ _ => rfl)) pa_nil)))
     (pss_cons (ps_for PassesOwn.never rfl (pi_zipP (by rfl) T.b_zip (pa_cons (pe_slice sl_list (pv 1) (po_some pe_int) po_none) (pa_cons (pv 2) pa_nil))) (pg_tup rfl (pgs_cons (pg_name (i := 4) sc_token_of.nd rfl (.inl rfl)) (pgs_cons (pg_name (i := 5) sc_token_of.nd rfl (.inl rfl)) pgs_nil))) (pss_one (ps_if (PW.pt (pw_and (pt_cmpR op_eq (pv 5) pe_str (nomark _)) (pw_and1 (pt_val (pe_cal c_number_like (hr.mono (by omega)) rfl pass0 (pa_cons (pv 4) pa_nil)))))) (pss_one (ps_expr (pe_bm PySem.F.plainAttrs_list PySem.F.slot_list_append PySem.F.type_list_append mt_append (pv 3) (pa_cons (pe_callTy call_int_str (by rfl) T.b_int (by decide +kernel) (pa_cons (pv 4) pa_nil)) pa_nil)))) (pss_one (ps_if (PW.pt (pw_and (pt_cmpR op_eq (pv 5) pe_str (nomark _)) (pw_and1 (pt_val (pe_cal c_is_word (hr.mono (by omega)) rfl pass0 (pa_cons (pv 4) pa_nil)))))) (pss_one (ps_expr (pe_bm PySem.F.plainAttrs_list PySem.F.slot_list_append PySem.F.type_list_append mt_append (pv 3) (pa_cons (pv 4) pa_nil)))) (pss_one (ps_ret pe_non)))))))
     (pss_one (ps_ret (pe_callTy call_tuple_of (by rfl) T.b_tuple (by decide +kernel) (pa_cons (pv 3) pa_nil)))))))), ?_⟩
   refine ⟨fun σ H' => ∃ (tab : List (Str × Str)) (ws : List Str) (a : Addr), (tab = outP ∨ tab = cmdP) ∧ ws ≠ [] ∧ tokV z = wordsV tab ws ∧ σ = [some (.str z), some (.ref a), some (((tabV tab).lookup (ws.headD "")).getD .non), none, none, none] ∧ Same H H' ∧ H' a = some (.lst (ws.map V.str)) ∧ ∀ x ∈ ws, x.length ≤ 100000, ?_, ?_⟩
   · refine ⟨_, rfl, ⟨_, rfl⟩, _, _, rfl, rfl, _, rfl, ?_⟩
     have hd0 : ∀ ws : List Str, ws ≠ [] → atI (ws.map V.str) (0 : Int) = some (V.str (ws.headD "")) := fun ws h => by
       cases ws with
       | nil => exact absurd rfl h
       | cons a r => exact atI_zero _ _
     cases hs : Txt.startswith z "  " with
     | true =>
       refine ifT rfl ?_
       refine ⟨_, rfl, _, rfl, _, rfl, hsz, ⟨_, rfl⟩, _, _, rfl, rfl, rfl, (by have := cutS_length z (some 2) none; rw [sizeLine_eq]; omega), fun a na => ?_⟩
       have ha : upd H a (.lst ((Txt.split (cutS z (some 2) none) " ").map V.str)) a = some _ := upd_same
       have s1 := Same.new (o := .lst ((Txt.split (cutS z (some 2) none) " ").map V.str)) na
       refine ⟨pC, tabV cmdP, rfl, T.w_COMMAND_PARTS, _, rfl, a, _, 0, _, rfl, rfl, .inl (.inl ha), hd0 _ (splitS_ne _ _), _, rfl, ?_⟩
       refine ⟨cmdP, _, a, .inr rfl, splitS_ne _ _, (by unfold tokV; rw [hs, if_pos rfl]), rfl, s1, ha, fun x hx => ?_⟩
       have := split_mem hx
       have := cutS_length z (some 2) none
       omega
     | false =>
       refine ifF rfl ?_
       refine ⟨_, rfl, ⟨_, rfl⟩, _, _, rfl, rfl, rfl, (by rw [sizeLine_eq]; omega), fun a na => ?_⟩
       have ha : upd H a (.lst ((Txt.split z " ").map V.str)) a = some _ := upd_same
       have s1 := Same.new (o := .lst ((Txt.split z " ").map V.str)) na
       refine ⟨pU, tabV outP, rfl, T.w_OUTER_PARTS, _, rfl, a, _, 0, _, rfl, rfl, .inl (.inl ha), hd0 _ (splitS_ne _ _), _, rfl, ?_⟩
       refine ⟨outP, _, a, .inl rfl, splitS_ne _ _, (by unfold tokV; rw [hs, if_neg Bool.false_ne_true]), rfl, s1, ha, fun x hx => ?_⟩
       have := split_mem hx
       omega
   · rintro σ H1 ⟨tab, ws, a, ht, hne, hw, rfl, s1, ha, hle⟩
     have hd0 : atI (ws.map V.str) (0 : Int) = some (V.str (ws.headD "")) := by
       cases ws with
       | nil => exact absurd rfl hne
       | cons a r => exact atI_zero _ _
     unfold wordsV at hw
     rw [tabV_look]
     cases hl : tab.lookup (ws.headD "") with
     | none =>
       rw [hl] at hw
       exact ⟨_, rfl, rfl, _, rfl, ifT rfl (kn hw _ s1)⟩
     | some sh =>
       rw [hl] at hw
       dsimp only at hw
       have hsh := look_len ht hl
       refine ⟨_, rfl, rfl, _, rfl, ifF rfl ⟨_, rfl, a, _, rfl, .inl (.inl (.inl ha)), _, rfl, sh, rfl, (by rw [sizeLine_eq]; omega), _, _, rfl, rfl, rfl, _, rfl, ?_⟩⟩
       have e1 : (!decide (V.int ((ws.map V.str).length : Int) = V.int ((sh.length : Int) + 1))) = decide (ws.length ≠ sh.length + 1) := by
         rw [← decide_not, List.length_map]
         exact decide_eq_decide.mpr ⟨fun h e => h (by rw [e]; rfl), fun h e => h (by injection e with e; omega)⟩
       rw [e1]
       by_cases hln : ws.length ≠ sh.length + 1
       · rw [if_pos hln] at hw
         exact ifT (decide_eq_true hln) (kn hw _ s1)
       rw [if_neg hln] at hw
       have hln : ws.length = sh.length + 1 := Decidable.not_not.mp hln
       refine ifF (decide_eq_false fun h => h hln) ⟨_, rfl, a, _, 0, _, rfl, rfl, .inl (.inl ha), hd0, sz_lit (by show 1 ≤ 100000; decide), fun pA nA => ?_⟩
       have s2 : Same H1 (upd H1 pA (.lst [V.str (ws.headD "")])) := Same.new nA
       have hp2 : upd H1 pA (.lst [V.str (ws.headD "")]) pA = some (.lst [V.str (ws.headD "")]) := upd_same
       revert s2 hp2
       generalize upd H1 pA (.lst [V.str (ws.headD "")]) = H2
       intro s2 hp2
       refine ⟨_, rfl, _, rfl, a, _, rfl, .inl (.inl (s2 _ _ ha)), fun b nb => ⟨_, rfl, ?_⟩⟩
       rw [cut1d, ← List.map_drop, show ws.drop 1 = ws.tail by cases ws <;> rfl]
       have s3 : Same H2 (upd H2 b (.lst (ws.tail.map V.str))) := Same.new nb
       have hb3 : upd H2 b (.lst (ws.tail.map V.str)) b = some (.lst (ws.tail.map V.str)) := upd_same
       have hp3 := s3 _ _ hp2
       have npb : b ≠ pA := fun e => by rw [e, hp2] at nb; cases nb
       have nA0 : H pA = none := same_no s1 nA
       have s13 := (s1.trans s2).trans s3
       revert s13 hb3 hp3
       generalize upd H2 b (.lst (ws.tail.map V.str)) = H3
       intro hb3 hp3 s13
       refine ⟨sh, b, _, rfl, .inl (.inl hb3), ?_⟩
       have htl : ws.tail.length = sh.length := by rw [List.length_tail]; omega
       refine for_zipP (x := sh) (ys := ws.tail.map V.str) (by rw [List.length_map, htl]; rfl) (fun i σ G => ∃ (done : List V) (y4 y5 : Option V), σ = [some (.str z), some (.ref a), some (.str sh), some (.ref pA), y4, y5] ∧ partsV ((ws.tail.zip sh.cps.toList).take i) = some done ∧ done.length = i ∧ Same H G ∧ G b = some (.lst (ws.tail.map V.str)) ∧ G pA = some (.lst (V.str (ws.headD "") :: done))) ⟨[], _, _, rfl, rfl, rfl, s13, hb3, hp3⟩ (fun i σ G ⟨_, _, _, _, _, _, _, h, _⟩ => .inl (.inl h)) ?_ ?_
       · rintro i c y T' σ G hc hy ⟨done, y4, y5, rfl, hd, hdl, sG, hGb, hGp⟩ nT
         have hyw : ∃ w0, ws.tail[i]? = some w0 ∧ y = .str w0 := by
           rw [List.getElem?_map] at hy
           cases hq : ws.tail[i]? with
           | none => rw [hq] at hy; cases hy
           | some w0 => rw [hq] at hy; exact ⟨w0, rfl, (Option.some.inj hy).symm⟩
         obtain ⟨w0, hw0, rfl⟩ := hyw
         have hwl : w0.length ≤ 100000 := hle w0 (List.mem_of_mem_tail (List.mem_of_getElem? hw0))
         have hcs : sh.cps.toList[i]? = some c := by rw [Array.getElem?_toList]; exact hc
         obtain ⟨z1, z2⟩ := zip_take hw0 hcs
         have hil : i < 2 := by
           have := (List.getElem?_eq_some_iff.mp hw0).1
           omega
         have sT := Same.new (o := .tup [.str w0, .str ⟨#[c]⟩]) nT
         refine ⟨T', _, rfl, .inl (.inl upd_same), rfl, _, _, rfl, _, _, rfl, rfl, ?_⟩
         have hGb1 := sT _ _ hGb
         have hGp1 := sT _ _ hGp
         have sG1 := sG.trans sT
         clear sT nT hGb hGp sG
         revert hGb1 hGp1 sG1
         generalize upd G T' (.tup [.str w0, .str ⟨#[c]⟩]) = G1
         intro hGb1 hGp1 sG1
         have bad : partV (w0, c) = none → ∀ G', Same H G' → Q .non G' := fun hv G' s' => kn (by rw [hw, z2, partsV_bad hd hv]; rfl) _ s'
         have good : ∀ v, partV (w0, c) = some v → ∃ (done' : List V) (y4' y5' : Option V), [some (.str z), some (.ref a), some (.str sh), some (.ref pA), some (.str w0), some (.str ⟨#[c]⟩)] = [some (.str z), some (.ref a), some (.str sh), some (.ref pA), y4', y5'] ∧ partsV ((ws.tail.zip sh.cps.toList).take (i + 1)) = some done' ∧ done'.length = i + 1 ∧ Same H (upd G1 pA (.lst ((V.str (ws.headD "") :: done) ++ [v]))) ∧ upd G1 pA (.lst ((V.str (ws.headD "") :: done) ++ [v])) b = some (.lst (ws.tail.map V.str)) ∧ upd G1 pA (.lst ((V.str (ws.headD "") :: done) ++ [v])) pA = some (.lst (V.str (ws.headD "") :: done')) := fun v hv => ⟨done ++ [v], _, _, rfl, by rw [z1, partsV_app _ hd, partsV_one hv]; rfl, by rw [List.length_append]; show done.length + 1 = i + 1; omega, same_updN sG1 nA0, by rw [L2.upd_ne npb]; exact hGb1, upd_same⟩
         have hsl : (V.str (ws.headD "") :: done).length < sizeLine := lt_sz (by rw [List.length_cons]; omega)
         refine ⟨_, rfl, rfl, _, rfl, ?_⟩
         by_cases h1 : c = 110
         · subst h1
           refine ifT (by decide +kernel) ⟨_, rfl, w0, rfl, hwl, _, rfl, ?_⟩
           cases hn : numLike w0 with
           | true =>
             obtain ⟨hi, h5⟩ := numLike_int hn
             exact ifT rfl ⟨_, rfl, .inl ⟨rfl, _, .inl (.inl hGp1)⟩, _, rfl, w0, _, rfl, hi, by omega, pA, _, _, rfl, rfl, hGp1, hsl, good _ (if_pos ⟨rfl, hn⟩)⟩
           | false =>
             refine ifF rfl ⟨_, rfl, rfl, _, rfl, ifF (by decide +kernel) (bad ?_ _ sG1)⟩
             unfold partV
             rw [if_neg (fun h => by rw [hn] at h; cases h.2), if_neg (fun h => by cases h.1)]
         · refine ifF ((one_strG c 110).trans (decide_eq_false h1)) ⟨_, rfl, rfl, _, rfl, ?_⟩
           by_cases h2 : c = 119
           · subst h2
             refine ifT (by decide +kernel) ⟨_, rfl, _, .str w0, rfl, .str w0, fun x e => by cases e; exact hwl, _, rfl, ?_⟩
             cases hn : isWordS w0 with
             | true => exact ifT hn ⟨_, rfl, .inl ⟨rfl, _, .inl (.inl hGp1)⟩, _, rfl, pA, _, _, rfl, rfl, hGp1, hsl, good _ (by unfold partV; rw [if_neg (fun h => by cases h.1), if_pos ⟨rfl, hn⟩])⟩
             | false =>
               refine ifF hn (bad ?_ _ sG1)
               unfold partV
               rw [if_neg (fun h => by cases h.1), if_neg (fun h => by rw [hn] at h; cases h.2)]
           · refine ifF ((one_strG c 119).trans (decide_eq_false h2)) (bad ?_ _ sG1)
             unfold partV
             rw [if_neg (fun h => h1 h.1), if_neg (fun h => h2 h.1)]
       · rintro σ G ⟨done, y4, y5, rfl, hd, hdl, sG, hGb, hGp⟩
         rw [List.take_of_length_le (by rw [List.length_zip, List.length_map]; exact Nat.min_le_left _ _)] at hd
         rw [hd] at hw
         refine ⟨_, rfl, pA, _, rfl, .inl ⟨.inl (.inl hGp), fun p np => ?_⟩⟩
         exact k _ hw p _ (sG.trans (Same.new np)) upd_same
end
end Op
set_option pp.maxSteps 900
namespace Op
open PySem L2 TL PyProof.Rows
structure TxtI (P : Program) (w : World) (K : PySem.W.Frag) (mg : Str → Option Value) (pU pC CT CA pZ : Addr) : Prop extends TxtT P w K mg pU pC CT CA where
 g_DEEP : ∃ t, mg "DEEPEST_texts" = some (.int 12 t)
 g_SIZES : mg "SIZES" = some (.ref pZ)
 w_SIZES : WTab K w pZ (sizesP.map fun p => (p.1, V.int p.2))
section
variable {P : Program} {w : World} {K : PySem.W.Frag} {mg : Str → Option Value} {base : Heap} {pU pC CT CA CH pZ : Addr}
def spLineP (K : PySem.W.Frag) : Sp := fun vs H Q _ => ∃ z : Str, vs = [.str z] ∧ z.length ≤ 100000 ∧ (lineP z = none → ∀ H', Same H H' → Q .non H') ∧
 (∀ p, lineP z = some p → ∀ t l H', Same H H' → H t = none → H l = none → SqT K H' t [.int (p.1 : Int), .ref l] → H' l = some (.lst (p.2.map V.str)) → Q (.ref t) H')
theorem sc_line_parts : FnScope ["line", "spaces", "words"] ["line"] (defScope s_line_parts) := ⟨rfl, rfl, rfl, by decide +kernel, rfl, by decide +kernel, by decide +kernel⟩
theorem ok_line_parts {f : Addr} {fd : FuncData} (F : Fun K "line_parts" "line_parts" s_line_parts f fd) (T : TxtI P w K mg pU pC CT CA pZ) : FnOk P w K mg base CX0 1 f fd ["line"] (spLineP K) := by
 refine F.ok sc_line_parts (fun vs H Q E h => ?_) (fun cdv A outer s H vs Q E hr h => ?_)
 · obtain ⟨z, rfl, _⟩ := h
   rfl
 · obtain ⟨z, rfl, hz, kn, k⟩ := h
   have hsz : z.length ≤ sizeLine := by rw [sizeLine_eq]; omega
   refine ⟨_, (pss_cons (ps_set (i := 1) sc_line_parts.nd rfl (.inl rfl) (pe_op op_sub (pe_callB call_len_str (by rfl) T.b_len (by decide +kernel) (pa_cons (pv 0) pa_nil)) (pe_callB call_len_str (by rfl) T.b_len (by decide +kernel) (pa_cons (pe_m1 PySem.F.slot_str_lstrip PySem.F.type_str_lstrip mt_lstripChars (pv 0) pe_str) pa_nil))))
     (pss_cons (ps_set (i := 2) sc_line_parts.nd rfl (.inl rfl) (pe_split (pe_slice sl_str (pv 0) (po_some (pv 1)) po_none) pe_str))
     (pss_cons (ps_if (PW.pt (pw_or (pt_cmpR op_gt (pe_op op_fdivN (pv 1) pe_int) (pe_glob (v := .int (12)) rfl T.g_DEEP.choose_spec ⟨_, rfl⟩) (nomark _)) (pw_or (pt_cmpR op_eq (pe_op op_modN (pv 1) pe_int) pe_int (nomark _)) (pw_or1 (pt_cmpR op_in_seq pe_str (pv 2) (by rfl)))))) (pss_one (ps_ret pe_non)) pss_nil)
     (pss_one (ps_ret (pe_tup (pa_cons (pe_op op_fdivN (pv 1) pe_int) (pa_cons (pv 2) pa_nil)))))))), ?_⟩
   have hll := lead_le z
   have hl2 := len_lstripChars z " "
   refine ⟨_, rfl, z, rfl, hsz, _, rfl, ⟨_, rfl⟩, z, _, rfl, rfl, hsz, _, rfl, by omega, _, _, rfl, rfl, ?_⟩
   show gName 1 (V.int ((z.length : Int) - ((Txt.lstripChars z " ").length : Int))) _ _ _
   rw [lstrip_lead]
   refine ⟨_, rfl, _, rfl, _, rfl, _, rfl, hsz, ⟨_, rfl⟩, _, _, rfl, rfl, rfl, (by have := cutS_length z (some (lead z : Int)) none; rw [sizeLine_eq]; omega), fun a na => ?_⟩
   have ha : upd H a (.lst ((Txt.split (cutS z (some (lead z : Int)) none) " ").map V.str)) a = some (.lst ((Txt.split (cutS z (some (lead z : Int)) none) " ").map V.str)) := upd_same
   have s1 := Same.new (o := .lst ((Txt.split (cutS z (some (lead z : Int)) none) " ").map V.str)) na
   revert ha s1
   generalize hG : upd H a (.lst ((Txt.split (cutS z (some (lead z : Int)) none) " ").map V.str)) = G
   intro ha s1
   unfold lineP at kn k
   revert kn k ha
   generalize Txt.split (cutS z (some (lead z : Int)) none) " " = ws
   intro kn k ha
   have f1 : ((lead z : Nat) : Int).fdiv 2 = ((lead z / 2 : Nat) : Int) := (Int.ofNat_fdiv (lead z) 2).symm
   have f2 : ((lead z : Nat) : Int).fmod 2 = ((lead z % 2 : Nat) : Int) := (Int.ofNat_fmod _ _).symm
   refine ⟨_, rfl, _, _, rfl, rfl, ⟨by decide, by decide⟩, ((lead z / 2 : Nat) : Int), 12, by show V.int (Int.fdiv _ 2) = _; rw [f1], rfl, _, rfl, ?_⟩
   by_cases h1 : 12 < lead z / 2
   · rw [if_pos (.inl h1)] at kn
     exact ifT (decide_eq_true (by omega)) (ifT rfl (kn rfl _ s1))
   refine ifF (decide_eq_false (by omega)) ⟨_, rfl, _, _, rfl, rfl, by show (2 : Int) ≠ 0; decide, ?_⟩
   dsimp only [tC]
   rw [f2]
   refine ⟨rfl, _, rfl, ?_⟩
   have e2 : decide (V.int ((lead z % 2 : Nat) : Int) = V.int 1) = decide (lead z % 2 = 1) := decide_eq_decide.mpr ⟨fun h => by injection h with h; omega, fun h => by rw [h]; rfl⟩
   rw [e2]
   by_cases h2 : lead z % 2 = 1
   · rw [if_pos (.inr (.inl h2))] at kn
     exact ifT (decide_eq_true h2) (ifT rfl (kn rfl _ s1))
   refine ifF (decide_eq_false h2) ⟨_, rfl, a, ws.map V.str, rfl, .inl (.inl (.inl ha)), rfl, List.all_eq_true.mpr (fun v hv => by obtain ⟨y, _, rfl⟩ := List.mem_map.mp hv; rfl), _, rfl, ?_⟩
   rw [show (if false = true then !inV (V.str "") (ws.map V.str) else inV (V.str "") (ws.map V.str)) = inV (V.str "") (ws.map V.str) from rfl, inV_st]
   by_cases h3 : ("" : Str) ∈ ws
   · rw [if_pos (.inr (.inr h3))] at kn
     exact ifT (decide_eq_true h3) (kn rfl _ s1)
   rw [if_neg (by rintro (h | h | h) <;> contradiction)] at k
   refine ifF (decide_eq_false h3) ⟨_, rfl, _, _, rfl, rfl, ⟨by decide, by decide⟩, _, rfl, sz_lit (by show 2 ≤ 100000; decide), fun t nt => ?_⟩
   dsimp only
   rw [f1]
   exact k _ rfl t a _ (s1.trans (Same.new nt)) (same_no s1 nt) na (.inl (.inl upd_same)) (Same.new nt _ _ ha)
def spAllW (K : PySem.W.Frag) : Sp := fun vs H Q _ => ∃ (a : Addr) (ws : List Str), vs = [.ref a] ∧ H a = some (.lst (ws.map V.str)) ∧ (∀ x ∈ ws, x.length ≤ 100000) ∧ Q (.bl (ws.all isWordS)) H
theorem sc_all_words : FnScope ["words", "word"] ["words"] (defScope s_all_words) := ⟨rfl, rfl, rfl, by decide +kernel, rfl, by decide +kernel, by decide +kernel⟩
theorem ok_all_words {f : Addr} {fd : FuncData} (F : Fun K "all_words" "all_words" s_all_words f fd) (T : TxtI P w K mg pU pC CT CA pZ) (c_is_word : Cal P w K mg base CX0 1 "is_word" ["value"] (spWord K)) : FnOk P w K mg base CX0 2 f fd ["words"] (spAllW K) := by
 refine F.ok sc_all_words (fun vs H Q E h => ?_) (fun cdv A outer s H vs Q E hr h => ?_)
 · obtain ⟨a, ws, rfl, _⟩ := h
   rfl
 · obtain ⟨a, ws, rfl, ha, hle, k⟩ := h
   refine ⟨_, (pss_cons (ps_for PassesOwn.never rfl (pi_list (pv 0)) (pg_name (i := 1) sc_all_words.nd rfl (.inl rfl)) (pss_one (ps_if (pt_not (pt_val (pe_cal c_is_word (hr.mono (by omega)) rfl pass0 (pa_cons (pv 1) pa_nil)))) (pss_one (ps_ret pe_bl)) pss_nil)))
     (pss_one (ps_ret pe_bl))), ?_⟩
   refine ⟨_, rfl, a, rfl, ⟨_, .inl (.inl ha)⟩, ?_⟩
   refine for_it (walk_list (xs := ws.map V.str)) (fun i σ G => (∃ y1 : Option V, σ = [some (.ref a), y1]) ∧ G = H ∧ (ws.take i).all isWordS = true) ⟨⟨_, rfl⟩, rfl, rfl⟩ (fun i σ G _ h => by rw [h.2.1]; exact .inl (.inl ha)) ?_ ?_
   · rintro i x σ G1 G hi ⟨⟨y1, rfl⟩, rfl, hok⟩ ⟨rfl, hx⟩
     rw [List.length_map] at hi
     have hw : ws[i]? = some ws[i] := List.getElem?_eq_getElem hi
     revert hw
     generalize ws[i] = w0
     intro hw
     rw [List.getElem?_map, hw] at hx
     obtain rfl := Option.some.inj hx
     have hwl := hle w0 (List.mem_of_getElem? hw)
     refine ⟨_, rfl, .str w0, .str w0, rfl, .str _, fun x e => (by injection e with e; subst e; exact hwl), ?_⟩
     cases hiw : isWordS w0 with
     | true => exact ⟨_, rfl, ifF (by show (!isWordS w0) = false; rw [hiw]; rfl) ⟨⟨_, rfl⟩, rfl, by rw [TS.take_one hw, List.all_append, hok]; simp [hiw]⟩⟩
     | false =>
       refine ⟨_, rfl, ifT (by show (!isWordS w0) = true; rw [hiw]; rfl) ?_⟩
       have : ws.all isWordS = false := List.all_eq_false.mpr ⟨w0, List.mem_of_getElem? hw, by rw [hiw]; decide⟩
       rw [this] at k
       exact k
   · rintro σ G ⟨⟨y1, rfl⟩, rfl, hok⟩
     rw [List.length_map, List.take_of_length_le (Nat.le_refl _)] at hok
     rw [hok] at k
     exact k
theorem sizes_look (z : Str) : (sizesP.map fun p => (p.1, V.int p.2)).lookup z = (sizesP.lookup z).map V.int := by
 generalize sizesP = l
 induction l with
 | nil => rfl
 | cons p r ih =>
   obtain ⟨a, b⟩ := p
   simp only [List.map_cons, List.lookup_cons]
   cases z == a with
   | true => rfl
   | false => exact ih
def spRowF (K : PySem.W.Frag) : Sp := fun vs H Q _ => ∃ (a : Addr) (ws : List Str), vs = [.ref a] ∧ H a = some (.lst (ws.map V.str)) ∧ ws ≠ [] ∧ ws.length ≤ 100000 ∧ (∀ x ∈ ws, x.length ≤ 100000) ∧ ∀ H', Same H H' → Q (.bl (rowF ws)) H'
theorem sc_row_form : FnScope ["words", "kind"] ["words"] (defScope s_row_form) := ⟨rfl, rfl, rfl, by decide +kernel, rfl, by decide +kernel, by decide +kernel⟩
theorem ok_row_form {f : Addr} {fd : FuncData} (F : Fun K "row_form" "row_form" s_row_form f fd) (T : TxtI P w K mg pU pC CT CA pZ) (c_all_words : Cal P w K mg base CX0 2 "all_words" ["words"] (spAllW K)) : FnOk P w K mg base CX0 3 f fd ["words"] (spRowF K) := by
 refine F.ok sc_row_form (fun vs H Q E h => ?_) (fun cdv A outer s H vs Q E hr h => ?_)
 · obtain ⟨a, ws, rfl, _⟩ := h
   rfl
 · obtain ⟨a, ws, rfl, ha, hne, hn, hle, k⟩ := h
   have hd0 : atI (ws.map V.str) (0 : Int) = some (V.str (ws.headD "")) := by
     cases ws with
     | nil => exact absurd rfl hne
     | cons a r => exact atI_zero _ _
   unfold rowF at k
   refine ⟨_, (pss_cons (ps_set (i := 1) sc_row_form.nd rfl (.inl rfl) (pe_ix ix_list (pv 0) pe_int (fun _ _ => rfl)))
     (Evl.pss_cut (ps_if (PW.pt (pw_or (pt_cmpR op_eq (pv 1) pe_str (nomark _)) (pw_or1 (pt_cmpR op_eq (pv 1) pe_str (nomark _))))) (pss_one (ps_if (pt_cmpR op_lt (pe_callB call_len_seq (by rfl) T.b_len (by decide +kernel) (pa_cons (pv 0) pa_nil)) pe_int (nomark _)) (pss_one (ps_ret pe_bl)) pss_nil)) (pss_one (ps_if (PW.pt (pw_or (pt_cmpR op_notIn_wtab (pv 1) (pe_gref rfl T.g_SIZES) (by rfl)) (pw_or1 (pt_cmpR op_ne (pe_callB call_len_seq (by rfl) T.b_len (by decide +kernel) (pa_cons (pv 0) pa_nil)) (pe_ix ix_wtab (pe_gref rfl T.g_SIZES) (pv 1) (fun _ _ => rfl)) (nomark _))))) (pss_one (ps_ret pe_bl)) pss_nil)))
     (pss_one (ps_ret (pe_cal c_all_words (hr.mono (by omega)) rfl pass0 (pa_cons (pe_slice sl_list (pv 0) (po_some pe_int) po_none) pa_nil)))))), ?_⟩
   refine ⟨_, rfl, a, _, 0, _, rfl, rfl, .inl (.inl ha), hd0, ?_⟩
   refine ⟨fun σ H' => σ = [some (.ref a), some (.str (ws.headD ""))] ∧ H' = H ∧ headOk ws = true, ?_, ?_⟩
   · unfold headOk at k ⊢
     refine ⟨_, rfl, rfl, _, rfl, ?_⟩
     have e1 : ∀ x y : Str, decide (V.str x = V.str y) = decide (x = y) := fun x y => decide_eq_decide.mpr ⟨fun h => by injection h, fun h => by rw [h]⟩
     have e3 : ∀ (Y N : Prop), (headOk ws = true → True) → True := fun _ _ _ => trivial
     clear e3
     by_cases h1 : ws.headD "" = "first" ∨ ws.headD "" = "note"
     · rw [if_pos h1] at k ⊢
       by_cases h2 : ws.headD "" = "first"
       · rw [e1]
         refine ifT (decide_eq_true h2) (ifT rfl ?_)
         refine ⟨_, rfl, a, _, rfl, .inl (.inl (.inl ha)), _, _, rfl, rfl, _, rfl, ?_⟩
         rw [List.length_map]
         by_cases h3 : (ws.length : Int) < 3
         · refine ifT (decide_eq_true h3) ?_
           rw [decide_eq_false (by omega), Bool.false_and] at k
           exact k _ (Same.refl H)
         · exact ifF (decide_eq_false h3) ⟨rfl, rfl, decide_eq_true (by omega)⟩
       · rw [e1]
         refine ifF (decide_eq_false h2) ⟨_, rfl, rfl, _, rfl, ?_⟩
         rw [e1]
         refine ifT (decide_eq_true (h1.resolve_left h2)) ?_
         refine ⟨_, rfl, a, _, rfl, .inl (.inl (.inl ha)), _, _, rfl, rfl, _, rfl, ?_⟩
         rw [List.length_map]
         by_cases h3 : (ws.length : Int) < 3
         · refine ifT (decide_eq_true h3) ?_
           rw [decide_eq_false (by omega), Bool.false_and] at k
           exact k _ (Same.refl H)
         · exact ifF (decide_eq_false h3) ⟨rfl, rfl, decide_eq_true (by omega)⟩
     · rw [if_neg h1] at k ⊢
       rw [e1]
       refine ifF (decide_eq_false fun h => h1 (.inl h)) ⟨_, rfl, rfl, _, rfl, ?_⟩
       rw [e1]
       refine ifF (decide_eq_false fun h => h1 (.inr h)) ⟨_, rfl, pZ, _, _, rfl, rfl, T.w_SIZES, _, rfl, ?_⟩
       rw [sizes_look]
       cases hs : sizesP.lookup (ws.headD "") with
       | none =>
         rw [hs] at k
         exact ifT rfl (ifT rfl (k _ (Same.refl H)))
       | some n =>
         rw [hs] at k
         refine ifF rfl ⟨_, rfl, a, _, rfl, .inl (.inl (.inl ha)), _, rfl, pZ, _, _, V.int n, rfl, rfl, T.w_SIZES, by rw [sizes_look, hs]; rfl, rfl, _, rfl, ?_⟩
         rw [List.length_map]
         by_cases h3 : (ws.length : Int) = n
         · exact ifF (by rw [h3]; simp) ⟨rfl, rfl, decide_eq_true h3⟩
         · refine ifT (by rw [decide_eq_false (fun e => h3 (by injection e))]; rfl) ?_
           have k : ∀ (H' : Hp), Same H H' → Q (V.bl (decide ((ws.length : Int) = n) && ws.tail.all isWordS)) H' := k
           rw [decide_eq_false h3, Bool.false_and] at k
           exact k _ (Same.refl H)
   · rintro σ H1 ⟨rfl, rfl, hc⟩
     rw [hc] at k
     refine ⟨_, rfl, _, rfl, a, _, rfl, .inl (.inl ha), fun b nb => ?_⟩
     refine ⟨b, ws.tail, rfl, by rw [cut1d, ← List.map_drop, List.drop_one]; exact upd_same, fun x hx => hle x (List.mem_of_mem_tail hx), ?_⟩
     have := k _ (Same.new (o := .lst (cutV (ws.map V.str) (some 1) none)) nb)
     rw [Bool.true_and] at this
     exact this
end
end Op
namespace Op
open PySem L2 PyProof.Rows
def shp (d : PyData) : Bool := d.plain && decide (d.depth ≤ 60)
theorem shp_of {d : PyData} (h1 : d.plain = true) (h2 : d.depth ≤ 60) : shp d = true := by
 unfold shp
 rw [h1, decide_eq_true h2]
 rfl
section
variable {X : Cx} {pins : List (Addr × Obj)} {σ : L2.St} {H : Hp} {s : Shared}
end
section
variable {X : Cx}
end
section
variable {X : Cx}
def rEqP (K : PySem.W.Frag) (ng : Bool) : R2 := fun x y H Q => ∃ d e, Dp K H x d ∧ Dp K H y e ∧ shp d = true ∧ shp e = true ∧ Q (.bl (ng ^^ PyData.eqv d e)) H
theorem shp_room {A : Around} {d e : PyData} (h : shp d = true) (hu : A.units + 64 < cLine) : A.units + min d.depth e.depth < cLine := by
 have h5 := of_decide_eq_true (Bool.and_eq_true_iff.mp h).2
 have h6 : min d.depth e.depth ≤ d.depth := Nat.min_le_left _ _
 omega
theorem op_neP (hu : X.A.units + 64 < cLine) : OpR X (compareOp .NotEq) (rEqP X.K true) := by
 intro pins s σ H x y v u Q I rx ry h
 obtain ⟨d, e, hd, he, sd, se, q⟩ := h
 obtain ⟨as, r1⟩ := Dp.reads I d x v hd rx
 obtain ⟨bs, r2⟩ := Dp.reads I e y u he ry
 exact SeqAt.ne_plain r1 r2 (Bool.and_eq_true_iff.mp sd).1 (Bool.and_eq_true_iff.mp se).1 (shp_room sd hu) (fin_bl I q (Bool.true_xor _))
end
end Op
set_option pp.maxSteps 700
namespace Op
open PySem L2 TL PyProof.Rows
theorem eqv_strsL : ∀ ws vs : List Str, PyData.eqvAll (ws.map .str) (vs.map .str) = decide (ws = vs)
 | [], [] => by simp [PyData.eqvAll]
 | [], _ :: _ => by simp [PyData.eqvAll]
 | _ :: _, [] => by simp [PyData.eqvAll]
 | a :: r, b :: t => by
   simp only [List.map_cons, PyData.eqvAll, eqv_strsL r t, PyData.eqv]
   by_cases h : a = b <;> simp [h]
theorem shp_strsL (ws : List Str) : shp (.list (ws.map .str)) = true := by
 have h : PyData.plainAll (ws.map .str) = true ∧ PyData.depthAll (ws.map .str) ≤ 1 := by
   induction ws with
   | nil => exact ⟨by simp [PyData.plainAll], by simp [PyData.depthAll]⟩
   | cons a r ih =>
     have h2 := ih.2
     refine ⟨by simp [PyData.plainAll, PyData.plain, ih.1], ?_⟩
     simp only [List.map_cons, PyData.depthAll, PyData.depth]
     omega
 refine shp_of (by simp [PyData.plain, h.1]) ?_
 have h2 := h.2
 simp only [PyData.depth]
 omega
theorem dpa_strsL {K : PySem.W.Frag} {H : Hp} : ∀ ws : List Str, DpAll K H (ws.map V.str) (ws.map .str)
 | [] => .nil
 | a :: r => .cons (.str a) (dpa_strsL r)
structure LrC (K : PySem.W.Frag) (C : Addr) : Prop where
 cls : Cls K C
 n1 : NoAttr K C "lines"
 n2 : NoAttr K C "done"
structure LrAt (H : Hp) (x C lp : Addr) (ls : List Str) (d : Nat) : Prop where
 at_ : ∃ dx, H x = some (.ins C dx [("lines", .ref lp), ("done", .int (d : Int))]) ∧ H lp = some (.lst (ls.map V.str))
 le : d ≤ ls.length
structure LOk (ls : List Str) : Prop where
 n : ls.length ≤ 90000
 z : ∀ l ∈ ls, l.length ≤ 90000
def XLine (H : Hp) (e : Addr) (k : Nat) : Prop := H e = some (.xd [("line", .int (k : Int))])
def ErL (CT x : Addr) (H : Hp) (X : XK) : Nat → Prop := fun k => ∀ H' e, But x H H' → XLine H' e k → X (.ref CT) (some e) H'
theorem But.of {x : Addr} {H H' : Hp} (s : Same H H') : But x H H' := fun b o h _ => s b o h
theorem But.tr {x : Addr} {H H1 H2 : Hp} (a : But x H H1) (b : But x H1 H2) : But x H H2 := fun c o h n => b c o (a c o h n) n
theorem ErL.to {CT x : Addr} {H H1 : Hp} {X : XK} {k : Nat} (h : ErL CT x H X k) (b : But x H H1) : ErL CT x H1 X k := fun H' e b' => h H' e (b.tr b')
theorem LrAt.mono {H H' : Hp} {x C lp : Addr} {ls : List Str} {d : Nat} (h : LrAt H x C lp ls d) (s : Same H H') : LrAt H' x C lp ls d := ⟨let ⟨dx, a, b⟩ := h.at_; ⟨dx, s _ _ a, s _ _ b⟩, h.le⟩
theorem passF {X : Cx} {P : Program} {w : World} : Passes (L2.CX P w) X (fun _ _ _ => False) := fun _ _ _ _ _ _ _ h => by
 obtain ⟨a, B, H', cls, d, _, _, _, _, _, _, _, h⟩ := h
 exact h.elim
theorem peek_lt {ls : List Str} {d : Nat} {fd : Int} {ws : List Str} (h : peekL ls d = .ok (fd, ws)) (h0 : 0 ≤ fd) : d < ls.length := by
 unfold peekL at h
 cases hg : ls[d]? with
 | none =>
   rw [hg] at h
   have := (Prod.mk.inj (Except.ok.inj h)).1
   omega
 | some l => exact (List.getElem?_eq_some_iff.mp hg).1
theorem lr_aug {H H2 : Hp} {x C dx lp : Addr} {ls : List Str} {d : Nat} (hlt : d < ls.length) (hx : H x = some (.ins C dx [("lines", .ref lp), ("done", .int (d : Int))])) (hl : H lp = some (.lst (ls.map V.str))) (b : But x H H2) :
   But x H (upd H2 x (.ins C dx [("lines", .ref lp), ("done", .int ((d : Int) + 1))])) ∧ LrAt (upd H2 x (.ins C dx [("lines", .ref lp), ("done", .int ((d : Int) + 1))])) x C lp ls (d + 1) := by
 have n : lp ≠ x := fun e => by rw [e, hx] at hl; cases hl
 exact ⟨fun c o h z => by rw [L2.upd_ne z]; exact b c o h z, ⟨dx, upd_same, by rw [L2.upd_ne n]; exact b _ _ hl n⟩, hlt⟩
section
variable {P : Program} {w : World} {K : PySem.W.Frag} {mg : Str → Option Value} {base : Heap} {pU pC CT CA CH pZ CL : Addr}
def spLrInit (C : Addr) : Sp := fun vs H Q _ => ∃ (x dx : Addr) (z : Str), vs = [.ref x, .str z] ∧ H x = some (.ins C dx []) ∧ z.length + 2 ≤ sizeLine ∧ (Txt.split z "\n").length ≤ 90000 ∧ ∀ lp H', H lp = none → But x H H' → LrAt H' x C lp (Txt.split z "\n") 0 → Q .non H'
theorem sc_LineReader___init__ : FnScope ["self", "text"] ["self", "text"] (defScope s_LineReader___init__) := ⟨rfl, rfl, rfl, by decide +kernel, rfl, by decide +kernel, by decide +kernel⟩
theorem ok_lr_init {f : Addr} {fd : FuncData} (F : Fun K "__init__" "LineReader.__init__" s_LineReader___init__ f fd) (lc : LrC K CL) : FnOk P w K mg base CX0 1 f fd ["self", "text"] (spLrInit CL) := by
 refine F.ok sc_LineReader___init__ (fun vs H Q X h => ?_) (fun cdv A outer s H vs Q X hr h => ?_)
 · obtain ⟨x, dx, z, rfl, _⟩ := h
   rfl
 · obtain ⟨x, dx, z, rfl, hx, hz, hn, k⟩ := h
   refine ⟨_, (pss_cons (ps_fld (pv 0) (pe_split (pv 1) pe_str) rfl)
     (pss_one (ps_fld (pv 0) pe_int rfl))), ?_⟩
   refine ⟨_, rfl, ⟨_, rfl⟩, _, _, rfl, rfl, rfl, hz, fun l nl => ⟨_, rfl, _, _, _, _, rfl, Same.new nl _ _ hx, lc.cls, lc.n1, (by show 0 < 1000; decide), _, rfl, _, _, _, _, rfl, upd_same, lc.cls, lc.n2, (by show 1 < 1000; decide), ?_⟩⟩
   have hxl : x ≠ l := fun e => by rw [e, nl] at hx; cases hx
   refine k l _ nl (fun b o h n => ?_) ⟨⟨dx, upd_same, ?_⟩, Nat.zero_le _⟩
   · rw [L2.upd_ne n, L2.upd_ne n]
     exact Same.new nl _ _ h
   · rw [L2.upd_ne hxl.symm, L2.upd_ne hxl.symm]
     exact upd_same
def spPeek (K : PySem.W.Frag) (C CT : Addr) : Sp := fun vs H Q X => ∃ (x lp : Addr) (ls : List Str) (d : Nat), vs = [.ref x] ∧ LrAt H x C lp ls d ∧ LOk ls ∧
 GoL (peekL ls d) (fun p => ∀ t l H', Same H H' → H t = none → H l = none → SqT K H' t [.int p.1, .ref l] → H' l = some (.lst (p.2.map V.str)) → Q (.ref t) H') (ErL CT x H X)
theorem sc_LineReader_peek : FnScope ["self", "parts"] ["self"] (defScope s_LineReader_peek) := ⟨rfl, rfl, rfl, by decide +kernel, rfl, by decide +kernel, by decide +kernel⟩
theorem ok_peek {f : Addr} {fd : FuncData} (F : Fun K "peek" "LineReader.peek" s_LineReader_peek f fd) (T : TxtI P w K mg pU pC CT CA pZ) (lc : LrC K CL) (c_line_parts : Cal P w K mg base CX0 1 "line_parts" ["line"] (spLineP K)) : FnOk P w K mg base (L2.CX P w) 2 f fd ["self"] (spPeek K CL CT) := by
 refine F.okX sc_LineReader_peek (fun vs H Q X h => ?_) (fun cdv A outer s H vs Q X hr h => ?_)
 · obtain ⟨x, lp, ls, d, rfl, _⟩ := h
   rfl
 · obtain ⟨x, lp, ls, d, rfl, L, ok, q⟩ := h
   obtain ⟨dx, hx, hl⟩ := L.at_
   refine ⟨_, (pss_cons (ps_if (pt_cmpR op_eq (pe_fld (pv 0) rfl) (pe_callB call_len_seq (by rfl) T.b_len (by decide +kernel) (pa_cons (pe_fld (pv 0) rfl) pa_nil)) (nomark _)) (pss_one (ps_ret (pe_tup (pa_cons (pe_un un_neg pe_int) (pa_cons (pe_lst (pa_cons pe_str pa_nil)) pa_nil))))) pss_nil)
     (pss_cons (ps_set (i := 1) sc_LineReader_peek.nd rfl (.inl rfl) (pe_cal c_line_parts (hr.mono (by omega)) rfl pass0 (pa_cons (pe_ix ix_list (pe_fld (pv 0) rfl) (pe_fld (pv 0) rfl) (fun _ _ => rfl)) pa_nil)))
     (pss_cons (ps_if (pt_cmpR op_isN (pv 1) pe_non (nomark _)) (pss_one (ps_raise rfl (takes_of rfl rfl rfl rfl) (pmk_x T.mk_InvalidText hr rfl T.g_InvalidText T.k_InvalidText T.r_InvalidText (pa_cons (pe_op op_add (pe_fld (pv 0) rfl) pe_int) pa_nil)))) pss_nil)
     (pss_one (ps_ret (pv 1)))))), ?_⟩
   refine ⟨_, rfl, _, _, _, _, _, rfl, hx, lc.cls, lc.n2, rfl, _, rfl, _, _, _, _, _, rfl, hx, lc.cls, lc.n1, rfl, lp, _, rfl, .inl (.inl (.inl hl)), rfl, _, rfl, ?_⟩
   have e1 : decide (V.int (d : Int) = V.int ((ls.map V.str).length : Int)) = decide (d = ls.length) := decide_eq_decide.mpr ⟨fun h => by injection h with h; rw [List.length_map] at h; omega, fun h => by rw [h, List.length_map]⟩
   rw [e1]
   unfold peekL at q
   by_cases hd : d = ls.length
   · rw [List.getElem?_eq_none (by omega)] at q
     have q : ∀ t l H', Same H H' → H t = none → H l = none → SqT K H' t [.int (-1), .ref l] → H' l = some (.lst [.str ""]) → Q (.ref t) H' := q
     refine ifT (decide_eq_true hd) ⟨1, rfl, sz_lit (by show 1 ≤ 100000; decide), fun l nl => ⟨sz_lit (by show 2 ≤ 100000; decide), fun t nt => ?_⟩⟩
     have s1 : Same H (upd H l (.lst [.str ""])) := Same.new nl
     exact q t l _ (s1.trans (Same.new nt)) (same_no s1 nt) nl (.inl (.inl upd_same)) (Same.new nt _ _ upd_same)
   · have hlt : d < ls.length := by have := L.le; omega
     have hg : ls[d]? = some ls[d] := List.getElem?_eq_getElem hlt
     revert hg
     generalize ls[d] = z
     intro hg
     rw [hg] at q
     dsimp only at q
     have hz : z.length ≤ 100000 := Nat.le_trans (ok.z z (List.mem_of_getElem? hg)) (by decide)
     refine ifF (decide_eq_false hd) ⟨_, rfl, _, _, _, _, _, rfl, hx, lc.cls, lc.n1, rfl, _, rfl, _, _, _, _, _, rfl, hx, lc.cls, lc.n2, rfl, lp, _, (d : Int), .str z, rfl, rfl, .inl (.inl hl), atI_nat (by rw [List.getElem?_map, hg]; rfl), z, rfl, hz, fun hn H1 s1 => ?_, fun p hp t l H1 s1 nt nl ht hl1 => ?_⟩
     · rw [hn] at q
       have q : ErL CT x H X (d + 1) := q
       refine ⟨_, rfl, rfl, _, rfl, ifT rfl ⟨_, rfl, _, _, _, _, _, rfl, s1 _ _ hx, lc.cls, lc.n2, rfl, _, _, rfl, rfl, rfl, fun e ne => ?_⟩⟩
       exact q _ e (But.of (s1.trans (Same.new ne))) upd_same
     · rw [hp] at q
       refine ⟨_, rfl, rfl, _, rfl, ifF rfl ⟨_, rfl, q t l H1 s1 nt nl ht hl1⟩⟩
def spExp (K : PySem.W.Frag) (C CT : Addr) : Sp := fun vs H Q X => ∃ (x lp : Addr) (ls : List Str) (d lv : Nat) (wd : Str), vs = [.ref x, .int (lv : Int), .str wd] ∧ LrAt H x C lp ls d ∧ LOk ls ∧
 GoL (expL ls lv wd d) (fun d' => ∀ H', But x H H' → LrAt H' x C lp ls d' → Q .non H') (ErL CT x H X)
theorem sc_LineReader_expect : FnScope ["self", "level", "word", "found", "words"] ["self", "level", "word"] (defScope s_LineReader_expect) := ⟨rfl, rfl, rfl, by decide +kernel, rfl, by decide +kernel, by decide +kernel⟩
theorem ok_expect {f : Addr} {fd : FuncData} (F : Fun K "expect" "LineReader.expect" s_LineReader_expect f fd) (T : TxtI P w K mg pU pC CT CA pZ) (lc : LrC K CL) (m_peek : Mcal P w K mg base (L2.CX P w) 2 CL "peek" ["self"] (spPeek K CL CT)) : FnOk P w K mg base (L2.CX P w) 3 f fd ["self", "level", "word"] (spExp K CL CT) := by
 refine F.okX sc_LineReader_expect (fun vs H Q X h => ?_) (fun cdv A outer s H vs Q X hr h => ?_)
 · obtain ⟨x, lp, ls, d, lv, wd, rfl, _⟩ := h
   rfl
 · obtain ⟨x, lp, ls, d, lv, wd, rfl, L, ok, q⟩ := h
   have c_LineReader := lc.cls
   obtain ⟨dx, hx, hl⟩ := L.at_
   refine ⟨_, (pss_cons (ps_asg (pe_mcal0 (pv 0) c_LineReader m_peek (hr.mono (by omega)) (passes_call (takes_of rfl rfl rfl rfl) (fun _ _ _ _ h => h))) (pg_tup rfl (pgs_cons (pg_name (i := 3) sc_LineReader_expect.nd rfl (.inl rfl)) (pgs_cons (pg_name (i := 4) sc_LineReader_expect.nd rfl (.inl rfl)) pgs_nil))))
     (pss_cons (ps_if (PW.pt (pw_or (pt_cmpR op_ne (pv 3) (pv 1) (nomark _)) (pw_or1 (pt_cmpR (r := rEqP K true) (op_neP hr.units) (pv 4) (pe_lst (pa_cons (pv 2) pa_nil)) (nomark _))))) (pss_one (ps_raise rfl (takes_of rfl rfl rfl rfl) (pmk_x T.mk_InvalidText hr rfl T.g_InvalidText T.k_InvalidText T.r_InvalidText (pa_cons (pe_op op_add (pe_fld (pv 0) rfl) pe_int) pa_nil)))) pss_nil)
     (pss_one (ps_fldaug (pv 0) pe_int in_add)))), ?_⟩
   unfold expL at q
   refine ⟨_, rfl, x, dx, _, rfl, hx, rfl, x, lp, ls, d, rfl, L, ok, q.seq.imp (fun p hp q => ?_) (fun k _ q => ?_)⟩
   · intro t l H1 s1 nt nl ht hl1
     obtain ⟨fd, ws⟩ := p
     dsimp only at q ht hl1
     refine ⟨t, _, rfl, ht, rfl, _, _, rfl, _, _, rfl, rfl, ?_⟩
     refine ⟨_, rfl, _, rfl, rfl, _, rfl, ?_⟩
     have e1 : (!decide (V.int fd = V.int (lv : Int))) = decide (fd ≠ (lv : Int)) := by
       rw [← decide_not]
       exact decide_eq_decide.mpr ⟨fun h e => h (by rw [e]), fun h e => h (by injection e)⟩
     rw [e1]
     have hraise : fd ≠ (lv : Int) ∨ ws ≠ [wd] → ErL CT x H X (d + 1) := fun h => by
       rw [if_pos h] at q
       exact q
     by_cases h1 : fd ≠ (lv : Int)
     · refine ifT (decide_eq_true h1) (ifT rfl ⟨_, rfl, _, _, _, _, _, rfl, s1 _ _ hx, lc.cls, lc.n2, rfl, _, _, rfl, rfl, rfl, fun e ne => ?_⟩)
       exact hraise (.inl h1) _ e (But.of (s1.trans (Same.new ne))) upd_same
     refine ifF (decide_eq_false h1) ⟨_, rfl, _, rfl, sz_lit (by show 1 ≤ 100000; decide), fun c nc => ⟨.list (ws.map .str), .list [.str wd], ?_, ?_, ?_, ?_, _, rfl, ?_⟩⟩
     · exact .lst (.inl (.inl (Same.new nc _ _ hl1))) (dpa_strsL ws)
     · exact .lst (.inl (.inl upd_same)) (.cons (.str _) .nil)
     · exact shp_strsL ws
     · exact shp_strsL [wd]
     · rw [show (true ^^ PyData.eqv (.list (ws.map .str)) (.list [.str wd])) = decide (ws ≠ [wd]) by
         have := eqv_strsL ws [wd]
         rw [show PyData.eqv (.list (ws.map .str)) (.list [.str wd]) = PyData.eqvAll (ws.map .str) ([wd].map .str) by simp [PyData.eqv], this, Bool.true_xor, ← decide_not]]
       have s2 := s1.trans (Same.new (o := .lst [V.str wd]) nc)
       by_cases h2 : ws ≠ [wd]
       · refine ifT (decide_eq_true h2) ⟨_, rfl, _, _, _, _, _, rfl, s2 _ _ hx, lc.cls, lc.n2, rfl, _, _, rfl, rfl, rfl, fun e ne => ?_⟩
         exact hraise (.inr h2) _ e (But.of (s2.trans (Same.new ne))) upd_same
       · rw [if_neg (fun h => h.elim h1 h2)] at q
         have q : ∀ H', But x H H' → LrAt H' x CL lp ls (d + 1) → Q .non H' := q
         have hlt := peek_lt hp (by have := Decidable.not_not.mp h1; omega)
         obtain ⟨b3, L3⟩ := lr_aug hlt hx hl (But.of s2)
         exact ifF (decide_eq_false h2) ⟨_, rfl, x, CL, dx, _, _, rfl, s2 _ _ hx, lc.cls, lc.n2, rfl, _, _, rfl, rfl, dx, _, s2 _ _ hx, by show 2 < 1000; decide, q _ b3 L3⟩
   · exact q
end
end Op
set_option pp.maxSteps 700
namespace Op
open PySem L2 TL PyProof.Rows
section
variable {P : Program} {w : World} {K : PySem.W.Frag} {mg : Str → Option Value} {base : Heap} {pU pC CT CA CH pZ CL : Addr}
def spBlk (K : PySem.W.Frag) (C CT : Addr) (n : Nat) : Sp := fun vs H Q X => ∃ (x lp : Addr) (ls : List Str) (d lv f : Nat), vs = [.ref x, .int (lv : Int)] ∧ LrAt H x C lp ls d ∧ LOk ls ∧ 13 ≤ lv + n ∧ f ≤ 90000 ∧
 GoL (blockL ls f lv d) (fun r => ∀ p xs H', But x H H' → LrAt H' x C lp ls r.2 → H p = none → H' p = some (.lst xs) → DpAll K (cutH (LstAt H) H') xs r.1 → Q (.ref p) H') (ErL CT x H X)
def spRowL (K : PySem.W.Frag) (C CT : Addr) (n : Nat) : Sp := fun vs H Q X => ∃ (x lp : Addr) (ls : List Str) (d lv f : Nat) (wl : Addr) (ws : List Str), vs = [.ref x, .int (lv : Int), .ref wl] ∧ LrAt H x C lp ls d ∧ LOk ls ∧ 13 ≤ lv + n ∧ f ≤ 90000 ∧ H wl = some (.lst (ws.map V.str)) ∧ rowF ws = true ∧ ws ≠ [] ∧ ws.length ≤ 100001 ∧
 GoL (rowLn ls f lv ws d) (fun r => ∀ v H', But x H H' → LrAt H' x C lp ls r.2 → Dp K (cutH (LstAt H) H') v r.1 → Q v H') (ErL CT x H X)
theorem But.kpC {x C dx : Addr} {fs : List (Str × V)} {S : Addr → Prop} {H H' : Hp} (b : But x H H') (h : H x = some (.ins C dx fs)) : Kp (cutH S H) (cutH S H') := fun c o e hs => by
 have n := cut_has e
 have e' := cut_at e
 rw [cut_not n]
 exact b c o e' fun z => by
   rw [z, h] at e'
   rw [← Option.some.inj e'] at hs
   cases hs
theorem sqt_cut {S : Addr → Prop} {H : Hp} {p : Addr} {xs : List V} (n : ¬ S p) (h : H p = some (.tup xs)) : SqT K (cutH S H) p xs := .inl (.inl (by rw [cut_not n]; exact h))
theorem sql_cut {S : Addr → Prop} {H : Hp} {p : Addr} {xs : List V} (n : ¬ S p) (h : H p = some (.lst xs)) : SqL K (cutH S H) p xs := .inl (.inl (by rw [cut_not n]; exact h))
theorem not_lst {H : Hp} {p : Addr} (h : H p = none) : ¬ LstAt H p := fun ⟨_, e⟩ => by rw [h] at e; cases e
theorem cut1m (xs : List V) : cutV xs (some 1) (some (-1)) = xs.tail.dropLast := by
 unfold cutV
 have e1 : HT.sIx xs.length 0 (some 1) = min 1 xs.length := HT.sIx_nat _ _ 1
 have e2 : HT.sIx xs.length xs.length (some (-1)) = xs.length - 1 := by
   show (if (-1 : Int) < 0 then ((-1 : Int) + (xs.length : Int)).toNat else min (-1 : Int).toNat xs.length) = _
   rw [if_pos (by decide)]
   omega
 rw [e1, e2]
 cases xs with
 | nil => rfl
 | cons a r =>
   rw [List.length_cons, show min 1 (r.length + 1) = 1 by omega, List.drop_one, List.tail_cons, List.dropLast_eq_take]
   congr 1
theorem cutd2 (xs : List V) (h : 2 ≤ xs.length) : cutV xs (some 2) none = xs.drop 2 := by
 unfold cutV
 rw [show HT.sIx xs.length 0 (some 2) = min 2 xs.length from HT.sIx_nat _ _ 2, HT.sIx_none, show min 2 xs.length = 2 by omega]
 exact List.take_of_length_le (by rw [List.length_drop]; omega)
theorem lst_but {x C dx a : Addr} {fs : List (Str × V)} {H H' : Hp} (b : But x H H') (hx : H x = some (.ins C dx fs)) (h : LstAt H a) : LstAt H' a := by
 obtain ⟨xs, h⟩ := h
 exact ⟨xs, b _ _ h fun e => by rw [e, hx] at h; cases h⟩
theorem but_no {x a : Addr} {o : HO} {H H' : Hp} (b : But x H H') (hx : H' x = some o) (h : H' a = none) : H a = none := by
 cases e : H a with
 | none => rfl
 | some u =>
   have := b a u e fun z => by rw [z, hx] at h; cases h
   rw [this] at h
   cases h
theorem ne_ins {x C dx a : Addr} {fs : List (Str × V)} {xs : List V} {H : Hp} (hx : H x = some (.ins C dx fs)) (h : H a = some (.lst xs)) : a ≠ x := fun e => by rw [e, hx] at h; cases h
theorem tt_eqS {σ : L2.St} {H : Hp} {i : Nat} {k a : Str} (h : σ[i]? = some (some (V.str k))) : ∀ Q : Bool → Hp → Prop, Q (decide (k = a)) H → tTest (tOp rEq (tVar i) (tC (.str a))) σ H Q := fun Q q => by
 refine ⟨_, h, rfl, _, rfl, ?_⟩
 rw [show decide (V.str k = V.str a) = decide (k = a) from decide_eq_decide.mpr ⟨fun h => by injection h, fun h => by rw [h]⟩]
 exact q
theorem tor_of {A B : L2.TT} {σ : L2.St} {H : Hp} {x y : Bool} (hA : ∀ Q : Bool → Hp → Prop, Q x H → A σ H Q) (hB : ∀ Q : Bool → Hp → Prop, Q y H → B σ H Q) : ∀ Q : Bool → Hp → Prop, Q (x || y) H → tOr A B σ H Q := fun Q q => by
 unfold tOr
 refine hA _ ?_
 cases x with
 | true => exact ifT rfl q
 | false => exact ifF rfl (hB _ q)
theorem tif_of {A : L2.TT} {σ : L2.St} {H : Hp} {x : Bool} {va vb : V} (hA : ∀ Q : Bool → Hp → Prop, Q x H → A σ H Q) : ∀ Q : VK, Q (if x = true then va else vb) H → tIf A (tC va) (tC vb) σ H Q := fun Q q => by
 unfold tIf
 refine hA _ ?_
 cases x with
 | true => exact ifT rfl q
 | false => exact ifF rfl q
theorem sc_LineReader_row : FnScope ["self", "level", "words", "kind", "one", "branches"] ["self", "level", "words"] (defScope s_LineReader_row) := ⟨rfl, rfl, rfl, by decide +kernel, rfl, by decide +kernel, by decide +kernel⟩
theorem ok_lrow {f : Addr} {fd : FuncData} {n k : Nat} (F : Fun K "row" "LineReader.row" s_LineReader_row f fd) (T : TxtI P w K mg pU pC CT CA pZ) (lc : LrC K CL) (hk : 3 ≤ k) (m_peek : Mcal P w K mg base (L2.CX P w) 2 CL "peek" ["self"] (spPeek K CL CT)) (m_expect : Mcal P w K mg base (L2.CX P w) 3 CL "expect" ["self", "level", "word"] (spExp K CL CT)) (m_block : Mcal P w K mg base (L2.CX P w) k CL "block" ["self", "level"] (spBlk K CL CT n)) :
   FnOk P w K mg base (L2.CX P w) (k + 1) f fd ["self", "level", "words"] (spRowL K CL CT (n + 1)) := by
 refine F.okX sc_LineReader_row (fun vs H Q X h => ?_) (fun cdv A outer s H vs Q X hr h => ?_)
 · obtain ⟨x, lp, ls, d, lv, f, wl, ws, rfl, _⟩ := h
   rfl
 · obtain ⟨x, lp, ls, d, lv, f, wl, ws, rfl, L, ok, hlv, hf, hw, hrf, hne, hwn, q⟩ := h
   have c_LineReader := lc.cls
   obtain ⟨dx, hx, hl⟩ := L.at_
   refine ⟨_, (pss_cons (ps_set (i := 3) sc_LineReader_row.nd rfl (.inl rfl) (pe_ix ix_list (pv 2) pe_int (fun _ _ => rfl)))
     (pss_cons (ps_if (pt_cmpR op_eq (pv 3) pe_str (nomark _)) (pss_one (ps_ret (pe_tup (pa_cons pe_str (pa_cons (pe_callTy call_tuple_of (by rfl) T.b_tuple (by decide +kernel) (pa_cons (pe_slice sl_list (pv 2) (po_some pe_int) (po_some (pe_un un_neg pe_int))) pa_nil)) (pa_cons (pe_ix ix_list (pv 2) (pe_un un_neg pe_int) (fun _ _ => rfl)) pa_nil)))))) pss_nil)
     (pss_cons (ps_if (pt_cmpR op_eq (pv 3) pe_str (nomark _)) (pss_one (ps_ret (pe_tup (pa_cons pe_str (pa_cons (pe_ix ix_list (pv 2) pe_int (fun _ _ => rfl)) (pa_cons (pe_callTy call_tuple_of (by rfl) T.b_tuple (by decide +kernel) (pa_cons (pe_slice sl_list (pv 2) (po_some pe_int) po_none) pa_nil)) pa_nil)))))) pss_nil)
     (pss_cons (ps_if (PW.pt (pw_or (pt_cmpR op_eq (pv 3) pe_str (nomark _)) (pw_or1 (pt_cmpR op_eq (pv 3) pe_str (nomark _))))) (pss_cons (ps_set (i := 4) sc_LineReader_row.nd rfl (.inl rfl) (pe_mcal (pv 0) c_LineReader m_block (hr.mono (by omega)) (passes_call (takes_of rfl rfl rfl rfl) (fun _ _ _ _ h => h)) (pa_cons (pe_op op_add (pv 1) pe_int) pa_nil)))
     (pss_cons (ps_expr (pe_mcal (pv 0) c_LineReader m_expect (hr.mono (by omega)) (passes_call (takes_of rfl rfl rfl rfl) (fun _ _ _ _ h => h)) (pa_cons (pv 1) (pa_cons (pe_ifExp (pt_cmpR op_eq (pv 3) pe_str (nomark _)) pe_str pe_str) pa_nil))))
     (pss_one (ps_ret (pe_tup (StX.pa_star (pv 2) (pa_cons (pv 4) (pa_cons (pe_mcal (pv 0) c_LineReader m_block (hr.mono (by omega)) (passes_call (takes_of rfl rfl rfl rfl) (fun _ _ _ _ h => h)) (pa_cons (pe_op op_add (pv 1) pe_int) pa_nil)) pa_nil)))))))) pss_nil)
     (pss_cons (ps_if (PW.pt (pw_or (pt_cmpR op_eq (pv 3) pe_str (nomark _)) (pw_or (pt_cmpR op_eq (pv 3) pe_str (nomark _)) (pw_or1 (pt_cmpR op_eq (pv 3) pe_str (nomark _)))))) (pss_one (ps_ret (pe_tup (StX.pa_star (pv 2) (pa_cons (pe_mcal (pv 0) c_LineReader m_block (hr.mono (by omega)) (passes_call (takes_of rfl rfl rfl rfl) (fun _ _ _ _ h => h)) (pa_cons (pe_op op_add (pv 1) pe_int) pa_nil)) pa_nil))))) pss_nil)
     (pss_cons (ps_if (pt_cmpR op_eq (pv 3) pe_str (nomark _)) (pss_cons (ps_set (i := 5) sc_LineReader_row.nd rfl (.inl rfl) (pe_lst pa_nil))
     (pss_cons (ps_while (passes_of rfl) (pt_cmpR op_eq (pe_ix ix_tup (pe_mcal0 (pv 0) c_LineReader m_peek (hr.mono (by omega)) (passes_call (takes_of rfl rfl rfl rfl) (fun _ _ _ _ h => h))) pe_int (fun _ _ => rfl)) (pe_op op_add (pv 1) pe_int) (nomark _)) (pss_cons (ps_expr (pe_mcal (pv 0) c_LineReader m_expect (hr.mono (by omega)) (passes_call (takes_of rfl rfl rfl rfl) (fun _ _ _ _ h => h)) (pa_cons (pe_op op_add (pv 1) pe_int) (pa_cons pe_str pa_nil))))
     (pss_one (ps_expr (pe_bm PySem.F.plainAttrs_list PySem.F.slot_list_append PySem.F.type_list_append mt_append (pv 5) (pa_cons (pe_mcal (pv 0) c_LineReader m_block (hr.mono (by omega)) (passes_call (takes_of rfl rfl rfl rfl) (fun _ _ _ _ h => h)) (pa_cons (pe_op op_add (pv 1) pe_int) pa_nil)) pa_nil))))))
     (pss_one (ps_ret (pe_tup (pa_cons pe_str (pa_cons (pe_callTy call_tuple_of (by rfl) T.b_tuple (by decide +kernel) (pa_cons (pv 5) pa_nil)) pa_nil))))))) pss_nil)
     (pss_one (ps_ret (pe_callTy call_tuple_of (by rfl) T.b_tuple (by decide +kernel) (pa_cons (pv 2) pa_nil)))))))))), ?_⟩
   cases f with
   | zero => rw [rowLn] at q; exact q.elim
   | succ f =>
     rw [rowLn] at q
     have hd0 : atI (ws.map V.str) (0 : Int) = some (V.str (ws.headD "")) := by
       cases ws with
       | nil => exact absurd rfl hne
       | cons a r => exact atI_zero _ _
     have hsz : (ws.map V.str).length ≤ sizeLine := by rw [List.length_map, sizeLine_eq]; omega
     have e1 : ∀ x y : Str, decide (V.str x = V.str y) = decide (x = y) := fun x y => decide_eq_decide.mpr ⟨fun h => by injection h, fun h => by rw [h]⟩
     have hmin : rowF ws = true → headOk ws = true := fun h => (Bool.and_eq_true_iff.mp h).1
     have hh := hmin hrf
     unfold headOk at hh
     refine ⟨_, rfl, wl, _, 0, _, rfl, rfl, .inl (.inl hw), hd0, _, rfl, rfl, _, rfl, ?_⟩
     rw [e1]
     by_cases g1 : ws.headD "" = "first"
     · rw [if_pos g1] at q
       rw [if_pos (.inl g1)] at hh
       have hl3 := of_decide_eq_true hh
       have hlast : (ws.map V.str).getLast? = some (V.str (ws.getLastD "")) := by
         rw [List.getLast?_map]
         cases ws with
         | nil => exact absurd rfl hne
         | cons a r => rw [List.getLast?_cons, List.getLastD_cons]; cases r <;> rfl
       refine ifT (decide_eq_true g1) ⟨_, rfl, _, rfl, 1, rfl, _, rfl, wl, _, rfl, .inl (.inl hw), fun b nb => ⟨b, _, rfl, .inl ⟨.inl (.inl upd_same), fun t nt => ?_⟩⟩⟩
       have s1 : Same H (upd H b (.lst (cutV (ws.map V.str) (some 1) (some (-1))))) := Same.new nb
       have s2 := s1.trans (Same.new (o := .tup (cutV (ws.map V.str) (some 1) (some (-1)))) nt)
       refine ⟨_, rfl, 1, rfl, wl, _, -1, _, rfl, rfl, .inl (.inl (s2 _ _ hw)), atI_last hlast, sz_lit (by show 3 ≤ 100000; decide), fun p np => ?_⟩
       have s3 := s2.trans (Same.new (o := .tup [V.str "first", V.ref t, V.str (ws.getLastD "")]) np)
       have q : ∀ v H', But x H H' → LrAt H' x CL lp ls d → Dp K (cutH (LstAt H) H') v (.tuple [.str "first", .tuple (ws.tail.dropLast.map .str), .str (ws.getLastD "")]) → Q v H' := q
       have hi : ∀ H', DpAll K H' (cutV (ws.map V.str) (some 1) (some (-1))) (ws.tail.dropLast.map .str) := fun H' => by rw [cut1m, ← List.map_tail, ← List.map_dropLast]; exact dpa_strsL _
       exact q _ _ (But.of s3) (L.mono s3) (.tup (sqt_cut (not_lst (same_no s2 np)) upd_same) (.cons (.str _) (.cons (.tup (sqt_cut (not_lst (same_no s1 nt)) (Same.new np _ _ upd_same)) (hi _)) (.cons (.str _) .nil))))
     rw [if_neg g1] at q
     refine ifF (decide_eq_false g1) ⟨_, rfl, rfl, _, rfl, ?_⟩
     rw [e1]
     by_cases g2 : ws.headD "" = "note"
     · rw [if_pos g2] at q
       rw [if_pos (.inr g2)] at hh
       have hl3 := of_decide_eq_true hh
       have h1 : (ws.map V.str)[1]? = some (V.str (ws.getD 1 "")) := by
         rw [List.getElem?_map, List.getD_eq_getElem?_getD, List.getElem?_eq_getElem (by omega : 1 < ws.length)]
         rfl
       refine ifT (decide_eq_true g2) ⟨_, rfl, wl, _, 1, _, rfl, rfl, .inl (.inl hw), atI_nat h1, _, rfl, _, rfl, wl, _, rfl, .inl (.inl hw), fun b nb => ⟨b, _, rfl, .inl ⟨.inl (.inl upd_same), fun t nt => ?_⟩⟩⟩
       have s1 : Same H (upd H b (.lst (cutV (ws.map V.str) (some 2) none))) := Same.new nb
       have s2 := s1.trans (Same.new (o := .tup (cutV (ws.map V.str) (some 2) none)) nt)
       refine ⟨sz_lit (by show 3 ≤ 100000; decide), fun p np => ?_⟩
       have s3 := s2.trans (Same.new (o := .tup [V.str "note", V.str (ws.getD 1 ""), V.ref t]) np)
       have q : ∀ v H', But x H H' → LrAt H' x CL lp ls d → Dp K (cutH (LstAt H) H') v (.tuple [.str "note", .str (ws.getD 1 ""), .tuple ((ws.drop 2).map .str)]) → Q v H' := q
       have hi : ∀ H', DpAll K H' (cutV (ws.map V.str) (some 2) none) ((ws.drop 2).map .str) := fun H' => by rw [cutd2 _ (by rw [List.length_map]; omega), ← List.map_drop]; exact dpa_strsL _
       exact q _ _ (But.of s3) (L.mono s3) (.tup (sqt_cut (not_lst (same_no s2 np)) upd_same) (.cons (.str _) (.cons (.str _) (.cons (.tup (sqt_cut (not_lst (same_no s1 nt)) (Same.new np _ _ upd_same)) (hi _)) .nil))))
     rw [if_neg g2] at q
     refine ifF (decide_eq_false g2) ?_
     refine tor_of (tt_eqS rfl) (tt_eqS rfl) _ ?_
     by_cases g3 : ws.headD "" = "if" ∨ ws.headD "" = "gate"
     · rw [if_pos g3] at q
       refine ifT (by rw [← Bool.decide_or]; exact decide_eq_true g3) ⟨_, rfl, x, dx, _, rfl, hx, rfl, _, rfl, _, _, rfl, rfl, x, lp, ls, d, lv + 1, f, rfl, L, ok, by omega, by omega, q.seq.imp (fun ⟨a, d1⟩ _ q p1 xs1 H1 b1 L1 np1 hp1 dp1 => ?_) (fun k _ h => h)⟩
       obtain ⟨dx1, hx1, hl1⟩ := id L1.at_
       have hw1 := b1 _ _ hw (ne_ins hx hw)
       refine ⟨_, rfl, x, dx1, _, rfl, hx1, rfl, _, rfl, tif_of (tt_eqS rfl) _ ⟨x, lp, ls, d1, lv, if ws.headD "" = "if" then "else" else "old", ?_, L1, ok, q.seq.imp (fun d2 _ q H2 b2 Lb => ?_) (fun k _ h => h.to b1)⟩⟩
       · by_cases g4 : ws.headD "" = "if"
         · rw [if_pos g4, decide_eq_true g4]; rfl
         · rw [if_neg g4, decide_eq_false g4]; rfl
       obtain ⟨dx2, hx2, hl2⟩ := id Lb.at_
       have hw2 := b2 _ _ hw1 (ne_ins hx1 hw1)
       have b12 := b1.tr b2
       refine ⟨_, rfl, wl, _, rfl, .inr (.inl (.inl hw2)), _, rfl, _, rfl, x, dx2, _, rfl, hx2, rfl, _, rfl, _, _, rfl, rfl, x, lp, ls, d2, lv + 1, f, rfl, Lb, ok, by omega, by omega, q.seq.imp (fun ⟨b, d3⟩ _ q p2 xs2 H3 b3 Lc np2 hp2 dp2 => ?_) (fun k _ h => h.to b12)⟩
       obtain ⟨dx3, hx3, hl3⟩ := id Lc.at_
       have b13 := b2.tr b3
       refine ⟨by rw [List.length_append, List.length_map, sizeLine_eq]; show ws.length + 2 ≤ _; omega, fun p np => ?_⟩
       have s4 : Same H3 (upd H3 p (.tup (ws.map V.str ++ [V.ref p1, V.ref p2]))) := Same.new np
       have q : ∀ v H', But x H H' → LrAt H' x CL lp ls d3 → Dp K (cutH (LstAt H) H') v (.tuple (ws.map .str ++ [.list a, .list b])) → Q v H' := q
       have n0 := but_no (b1.tr b13) hx3 np
       have n2 := but_no b12 hx2 np2
       have c1 : DpAll K (cutH (LstAt H) (upd H3 p (.tup (ws.map V.str ++ [V.ref p1, V.ref p2])))) xs1 a := (dp1.kp (b13.kpC hx1)).mono (cut_same s4)
       have c2 : DpAll K (cutH (LstAt H) (upd H3 p (.tup (ws.map V.str ++ [V.ref p1, V.ref p2])))) xs2 b := (dp2.mono (cut_sub fun y hy => lst_but b12 hx hy)).mono (cut_same s4)
       exact q _ _ ((b1.tr b13).tr (But.of s4)) (Lc.mono s4) (.tup (sqt_cut (not_lst n0) upd_same) ((dpa_strsL ws).append (.cons (.lst (sql_cut (not_lst np1) (s4 _ _ (b13 _ _ hp1 (ne_ins hx1 hp1)))) c1) (.cons (.lst (sql_cut (not_lst n2) (s4 _ _ hp2)) c2) .nil))))
     rw [if_neg g3] at q
     refine ifF (by rw [← Bool.decide_or]; exact decide_eq_false g3) ?_
     refine tor_of (tt_eqS rfl) (tor_of (tt_eqS rfl) (tt_eqS rfl)) _ ?_
     by_cases g4 : ws.headD "" = "loop" ∨ ws.headD "" = "part" ∨ ws.headD "" = "past"
     · rw [if_pos g4] at q
       refine ifT (by rw [← Bool.decide_or, ← Bool.decide_or]; exact decide_eq_true g4) ?_
       refine ⟨_, rfl, wl, _, rfl, .inr (.inl (.inl hw)), _, rfl, x, dx, _, rfl, hx, rfl, _, rfl, _, _, rfl, rfl, x, lp, ls, d, lv + 1, f, rfl, L, ok, by omega, by omega, q.seq.imp (fun ⟨a, d1⟩ _ q p1 xs1 H1 b1 L1 np1 hp1 dp1 => ?_) (fun k _ h => h)⟩
       obtain ⟨dx1, hx1, hl1⟩ := id L1.at_
       refine ⟨by rw [List.length_append, List.length_map, sizeLine_eq]; show ws.length + 1 ≤ _; omega, fun p np => ?_⟩
       have s4 : Same H1 (upd H1 p (.tup (ws.map V.str ++ [V.ref p1]))) := Same.new np
       have q : ∀ v H', But x H H' → LrAt H' x CL lp ls d1 → Dp K (cutH (LstAt H) H') v (.tuple (ws.map .str ++ [.list a])) → Q v H' := q
       have c1 : DpAll K (cutH (LstAt H) (upd H1 p (.tup (ws.map V.str ++ [V.ref p1])))) xs1 a := dp1.mono (cut_same s4)
       exact q _ _ (b1.tr (But.of s4)) (L1.mono s4) (.tup (sqt_cut (not_lst (but_no b1 hx1 np)) upd_same) ((dpa_strsL ws).append (.cons (.lst (sql_cut (not_lst np1) (s4 _ _ hp1)) c1) .nil)))
     rw [if_neg g4] at q
     refine ifF (by rw [← Bool.decide_or, ← Bool.decide_or]; exact decide_eq_false g4) ?_
     refine tt_eqS rfl _ ?_
     by_cases g5 : ws.headD "" = "both"
     · rw [if_pos g5] at q
       refine ifT (decide_eq_true g5) ?_
       refine ⟨Nat.zero_le _, fun D nD => ?_⟩
       let S : Addr → Prop := fun b => LstAt H b ∨ b = D
       have s0 : Same H (upd H D (.lst [])) := Same.new nD
       have nlD : lp ≠ D := fun e => by rw [e, nD] at hl; cases hl
       have nxD : x ≠ D := fun e => by rw [e, nD] at hx; cases hx
       refine ⟨fun m σ G => ∃ d' acc done, σ = [some (.ref x), some (.int (lv : Int)), some (.ref wl), some (.str (ws.headD "")), none, some (.ref D)] ∧ But x H G ∧ LrAt G x CL lp ls d' ∧ G D = some (.lst acc) ∧ DpAll K (cutH S G) acc done ∧ acc.length + m ≤ f ∧
         GoL (sidesL ls m lv d') (fun r => ∀ v H', But x H H' → LrAt H' x CL lp ls r.2 → Dp K (cutH (LstAt H) H') v (.tuple [.str "both", .tuple (done ++ r.1)]) → Q v H') (ErL CT x H X),
         ⟨f, d, [], [], rfl, But.of s0, L.mono s0, upd_same, .nil, by show 0 + f ≤ f; omega, q.seq.imp (fun r _ h => h) (fun _ _ h => h)⟩, ?_⟩
       rintro m σ G ⟨d', acc, done, rfl, bG, LG, hD, dpa, hln, qm⟩
       cases m with
       | zero => rw [sidesL] at qm; exact qm.elim
       | succ m =>
         rw [sidesL] at qm
         obtain ⟨dxg, hxg, hlg⟩ := id LG.at_
         refine ⟨_, rfl, x, dxg, _, rfl, hxg, rfl, x, lp, ls, d', rfl, LG, ok, qm.seq.imp (fun ⟨fd, ws2⟩ hp qm t l G1 s1 nt nl ht hl1 => ?_) (fun k _ h => h.to bG)⟩
         refine ⟨t, _, 0, _, rfl, rfl, ht, rfl, _, rfl, _, _, rfl, rfl, rfl, _, rfl, ?_⟩
         have b1 := bG.tr (But.of s1)
         have ed : decide (V.int fd = V.int ((lv : Int) + 1)) = decide (fd = (lv : Int) + 1) := decide_eq_decide.mpr ⟨fun h => by injection h, fun h => by rw [h]⟩
         dsimp only at qm ⊢
         rw [ed]
         by_cases g6 : fd = (lv : Int) + 1
         · rw [if_pos g6] at qm
           refine ifT (decide_eq_true g6) ⟨_, fun σ' H' z => ⟨m, Nat.lt_succ_self m, z⟩, ?_⟩
           refine ⟨_, rfl, x, dxg, _, rfl, s1 _ _ hxg, rfl, _, rfl, _, _, rfl, rfl, x, lp, ls, d', lv + 1, "side", rfl, LG.mono s1, ok, qm.seq.imp (fun d1 _ qm G2 b2 Lb => ?_) (fun k _ h => h.to b1)⟩
           obtain ⟨dx2, hx2, hl2⟩ := id Lb.at_
           have b02 := b1.tr b2
           have hD2 := b2 _ _ (s1 _ _ hD) nxD.symm
           refine ⟨_, rfl, .inl ⟨rfl, _, .inl (.inl hD2)⟩, _, rfl, x, dx2, _, rfl, hx2, rfl, _, rfl, _, _, rfl, rfl, x, lp, ls, d1, lv + 2, m, rfl, Lb, ok, by omega, by omega, qm.seq.imp (fun ⟨b, d2⟩ _ qm p xs G3 b3 Lc np hp3 dp3 => ?_) (fun k _ h => h.to b02)⟩
           obtain ⟨dx3, hx3, hl3⟩ := id Lc.at_
           have hD3 := b3 _ _ hD2 nxD.symm
           have npD : p ≠ D := fun e => by rw [e, hD2] at np; cases np
           refine ⟨D, _, _, rfl, rfl, hD3, lt_sz (by omega), d2, acc ++ [.ref p], done ++ [.list b], rfl, ?_, ⟨⟨dx3, by rw [L2.upd_ne nxD]; exact hx3, by rw [L2.upd_ne nlD]; exact hl3⟩, Lc.le⟩, upd_same, ?_, by rw [List.length_append]; show acc.length + 1 + m ≤ f; omega, ?_⟩
           · intro c o hc hn
             rw [L2.upd_ne (fun e => by rw [e, nD] at hc; cases hc)]
             exact (b02.tr b3) c o hc hn
           · rw [cut_upd (show S D from .inr rfl)]
             have k1 : DpAll K (cutH S G3) acc done := dpa.kp (((But.of s1).tr (b2.tr b3)).kpC hxg)
             have k2 : DpAll K (cutH S G3) xs b := dp3.mono (cut_sub fun y hy => hy.elim (fun hy => lst_but b02 hx hy) fun e => e ▸ ⟨_, hD2⟩)
             exact k1.append (.cons (.lst (sql_cut (fun hy => hy.elim (not_lst (but_no b02 hx2 np)) npD) hp3) k2) .nil)
           · refine qm.seq.imp (fun ⟨bs, d3⟩ _ qm v H' bv Lv dv => qm v H' bv Lv ?_) (fun _ _ h => h)
             rw [List.append_assoc] at dv
             exact dv
         · rw [if_neg g6] at qm
           have hD1 := s1 _ _ hD
           refine ifF (decide_eq_false g6) ⟨_, rfl, D, _, rfl, .inl ⟨.inl (.inl hD1), fun t2 nt2 => ⟨sz_lit (by show 2 ≤ 100000; decide), fun p np => ?_⟩⟩⟩
           have s2 : Same G1 (upd G1 t2 (.tup acc)) := Same.new nt2
           have s3 : Same (upd G1 t2 (.tup acc)) (upd (upd G1 t2 (.tup acc)) p (.tup [V.str "both", .ref t2])) := Same.new np
           have q : ∀ v H', But x H H' → LrAt H' x CL lp ls d' → Dp K (cutH (LstAt H) H') v (.tuple [.str "both", .tuple (done ++ [])]) → Q v H' := qm
           rw [List.append_nil] at q
           have n1 := but_no b1 (s1 _ _ hxg) nt2
           have n2 := but_no (b1.tr (But.of s2)) (s2 _ _ (s1 _ _ hxg)) np
           exact q _ _ (b1.tr (But.of (s2.trans s3))) (LG.mono (s1.trans (s2.trans s3))) (.tup (sqt_cut (not_lst n2) upd_same) (.cons (.str _) (.cons (.tup (sqt_cut (not_lst n1) (s3 _ _ upd_same)) ((dpa.mono (cut_sub fun y hy => .inl hy)).mono (cut_same (s1.trans (s2.trans s3))))) .nil)))
     · rw [if_neg g5] at q
       refine ifF (decide_eq_false g5) ⟨_, rfl, wl, _, rfl, .inl ⟨.inl (.inl hw), fun p np => ?_⟩⟩
       have s4 : Same H (upd H p (.tup (ws.map V.str))) := Same.new np
       have q : ∀ v H', But x H H' → LrAt H' x CL lp ls d → Dp K (cutH (LstAt H) H') v (.tuple (ws.map .str)) → Q v H' := q
       exact q _ _ (But.of s4) (L.mono s4) (.tup (sqt_cut (not_lst np) upd_same) (dpa_strsL ws))
end
end Op
set_option pp.maxSteps 700
namespace Op
open PySem L2 TL PyProof.Rows
theorem join_ge {y : Str} (hy : 1 ≤ y.length) : ∀ ps : List Str, ps.length ≤ (Str.join y ps).length + 1
 | [] => Nat.zero_le _
 | [q] => by show 1 ≤ _; omega
 | a :: b :: r => by
   have e : Str.join y (a :: b :: r) = a ++ y ++ Str.join y (b :: r) := rfl
   have := join_ge hy (b :: r)
   rw [e, PySem.Str.length_append, PySem.Str.length_append]
   simp only [List.length_cons] at this ⊢
   omega
theorem split_cnt (x : Str) {y : Str} (hy : 1 ≤ y.length) : (Txt.split x y).length ≤ x.length + 1 := by
 have := join_ge hy (Txt.split x y)
 rw [StrLaws.join_split] at this
 exact this
theorem lineP_ws {z : Str} {p : Nat × List Str} (h : lineP z = some p) : p.1 ≤ 12 ∧ p.2 ≠ [] ∧ p.2.length ≤ z.length + 1 ∧ ∀ w ∈ p.2, w.length ≤ z.length := by
 unfold lineP at h
 split at h
 · cases h
 · rename_i hn
   obtain rfl := Option.some.inj h
   have hc := cutS_length z (some (lead z : Int)) none
   refine ⟨Nat.le_of_not_lt fun g => hn (.inl g), splitS_ne _ _, ?_, fun w hw => ?_⟩
   · have := split_cnt (cutS z (some (lead z : Int)) none) (y := " ") (by decide)
     show (Txt.split _ _).length ≤ _
     omega
   · have := split_mem hw
     omega
theorem peek_ws {ls : List Str} {d : Nat} {fd : Int} {ws : List Str} (ok : LOk ls) (h : peekL ls d = .ok (fd, ws)) : fd ≤ 12 ∧ ws ≠ [] ∧ ws.length ≤ 90001 ∧ ∀ w ∈ ws, w.length ≤ 90000 := by
 unfold peekL at h
 cases hg : ls[d]? with
 | none =>
   rw [hg] at h
   obtain ⟨rfl, rfl⟩ := Prod.mk.inj (Except.ok.inj h)
   exact ⟨by decide, by simp, by show 1 ≤ 90001; decide, fun w hw => by rw [List.mem_singleton.mp hw]; exact Nat.zero_le _⟩
 | some l =>
   rw [hg] at h
   dsimp only at h
   cases hl : lineP l with
   | none => rw [hl] at h; cases h
   | some p =>
     rw [hl] at h
     obtain ⟨rfl, rfl⟩ := Prod.mk.inj (Except.ok.inj h)
     have hz := ok.z l (List.mem_of_getElem? hg)
     obtain ⟨h1, h2, h3, h4⟩ := lineP_ws hl
     exact ⟨by omega, h2, by omega, fun w hw => Nat.le_trans (h4 w hw) hz⟩
section
variable {P : Program} {w : World} {K : PySem.W.Frag} {mg : Str → Option Value} {base : Heap} {pU pC CT CA CH pZ CL : Addr}
theorem sc_LineReader_block : FnScope ["self", "level", "rows", "found", "words"] ["self", "level"] (defScope s_LineReader_block) := ⟨rfl, rfl, rfl, by decide +kernel, rfl, by decide +kernel, by decide +kernel⟩
theorem ok_lblock {f : Addr} {fd : FuncData} {n k : Nat} {sr : Sp} (hsr : 1 ≤ n → sr = spRowL K CL CT n) (F : Fun K "block" "LineReader.block" s_LineReader_block f fd) (T : TxtI P w K mg pU pC CT CA pZ) (lc : LrC K CL) (hk : 3 ≤ k) (c_row_form : Cal P w K mg base CX0 3 "row_form" ["words"] (spRowF K)) (m_peek : Mcal P w K mg base (L2.CX P w) 2 CL "peek" ["self"] (spPeek K CL CT)) (m_row : Mcal P w K mg base (L2.CX P w) k CL "row" ["self", "level", "words"] sr) :
   FnOk P w K mg base (L2.CX P w) (k + 1) f fd ["self", "level"] (spBlk K CL CT n) := by
 refine F.okX sc_LineReader_block (fun vs H Q X h => ?_) (fun cdv A outer s H vs Q X hr h => ?_)
 · obtain ⟨x, lp, ls, d, lv, f, rfl, _⟩ := h
   rfl
 · obtain ⟨x, lp, ls, d, lv, f, rfl, L, ok, hlv, hf, q⟩ := h
   have c_LineReader := lc.cls
   obtain ⟨dx, hx, hl⟩ := L.at_
   refine ⟨_, (pss_cons (ps_set (i := 2) sc_LineReader_block.nd rfl (.inl rfl) (pe_lst pa_nil))
     (pss_one (ps_while (passes_of rfl) (pt_val pe_bl) (pss_cons (ps_asg (pe_mcal0 (pv 0) c_LineReader m_peek (hr.mono (by omega)) (passes_call (takes_of rfl rfl rfl rfl) (fun _ _ _ _ h => h))) (pg_tup rfl (pgs_cons (pg_name (i := 3) sc_LineReader_block.nd rfl (.inl rfl)) (pgs_cons (pg_name (i := 4) sc_LineReader_block.nd rfl (.inl rfl)) pgs_nil))))
     (pss_cons (ps_if (pt_cmpR op_lt (pv 3) (pv 1) (nomark _)) (pss_one (ps_ret (pv 2))) pss_nil)
     (pss_cons (ps_if (PW.pt (pw_or (pt_cmpR op_gt (pv 3) (pv 1) (nomark _)) (pw_or1 (pt_not (pt_val (pe_cal c_row_form (hr.mono (by omega)) rfl pass0 (pa_cons (pv 4) pa_nil))))))) (pss_one (ps_raise rfl (takes_of rfl rfl rfl rfl) (pmk_x T.mk_InvalidText hr rfl T.g_InvalidText T.k_InvalidText T.r_InvalidText (pa_cons (pe_op op_add (pe_fld (pv 0) rfl) pe_int) pa_nil)))) pss_nil)
     (pss_cons (ps_fldaug (pv 0) pe_int in_add)
     (pss_one (ps_expr (pe_bm PySem.F.plainAttrs_list PySem.F.slot_list_append PySem.F.type_list_append mt_append (pv 2) (pa_cons (pe_mcal (pv 0) c_LineReader m_row (hr.mono (by omega)) (passes_call (takes_of rfl rfl rfl rfl) (fun _ _ _ _ h => h)) (pa_cons (pv 1) (pa_cons (pv 4) pa_nil))) pa_nil))))))))))), ?_⟩
   refine ⟨Nat.zero_le _, fun D nD => ?_⟩
   let S : Addr → Prop := fun b => LstAt H b ∨ b = D
   have s0 : Same H (upd H D (.lst [])) := Same.new nD
   have nlD : lp ≠ D := fun e => by rw [e, nD] at hl; cases hl
   have nxD : x ≠ D := fun e => by rw [e, nD] at hx; cases hx
   refine ⟨fun m σ G => ∃ d' acc done y3 y4, σ = [some (.ref x), some (.int (lv : Int)), some (.ref D), y3, y4] ∧ But x H G ∧ LrAt G x CL lp ls d' ∧ G D = some (.lst acc) ∧ DpAll K (cutH S G) acc done ∧ acc.length + m ≤ f ∧
     GoL (blockL ls m lv d') (fun r => ∀ p xs H', But x H H' → LrAt H' x CL lp ls r.2 → H p = none → H' p = some (.lst xs) → DpAll K (cutH (LstAt H) H') xs (done ++ r.1) → Q (.ref p) H') (ErL CT x H X),
     ⟨f, d, [], [], _, _, rfl, But.of s0, L.mono s0, upd_same, .nil, by show 0 + f ≤ f; omega, q⟩, ?_⟩
   rintro m σ G ⟨d', acc, done, y3, y4, rfl, bG, LG, hD, dpa, hln, qm⟩
   cases m with
   | zero => rw [blockL] at qm; exact qm.elim
   | succ m =>
     rw [blockL] at qm
     obtain ⟨dxg, hxg, hlg⟩ := id LG.at_
     refine ⟨_, rfl, ifT rfl ⟨_, fun σ' H' z => ⟨m, Nat.lt_succ_self m, z⟩, ?_⟩⟩
     refine ⟨_, rfl, x, dxg, _, rfl, hxg, rfl, x, lp, ls, d', rfl, LG, ok, qm.seq.imp (fun ⟨fd, ws⟩ hp qm t l G1 s1 nt nl ht hl1 => ?_) (fun k _ h => h.to bG)⟩
     dsimp only at qm ht hl1
     have b1 := bG.tr (But.of s1)
     obtain ⟨w1, w2, w3, w4⟩ := peek_ws ok hp
     refine ⟨t, _, rfl, ht, rfl, _, _, rfl, _, _, rfl, rfl, _, rfl, _, rfl, _, _, rfl, rfl, _, rfl, ?_⟩
     by_cases g1 : fd < (lv : Int)
     · rw [if_pos g1] at qm
       have q : ∀ p xs H', But x H H' → LrAt H' x CL lp ls d' → H p = none → H' p = some (.lst xs) → DpAll K (cutH (LstAt H) H') xs (done ++ []) → Q (.ref p) H' := qm
       rw [List.append_nil] at q
       exact ifT (decide_eq_true g1) ⟨_, rfl, q D acc G1 b1 (LG.mono s1) nD (s1 _ _ hD) ((dpa.mono (cut_sub fun y hy => .inl hy)).mono (cut_same s1))⟩
     rw [if_neg g1] at qm
     refine ifF (decide_eq_false g1) ⟨_, rfl, _, rfl, _, _, rfl, rfl, _, rfl, ?_⟩
     have hraise : fd > (lv : Int) ∨ rowF ws = false → ErL CT x H X (d' + 1) := fun h => by
       rw [if_pos h] at qm
       exact qm
     by_cases g2 : fd > (lv : Int)
     · refine ifT (decide_eq_true g2) (ifT rfl ?_)
       refine ⟨_, rfl, x, CL, dxg, _, _, rfl, s1 _ _ hxg, lc.cls, lc.n2, rfl, _, _, rfl, rfl, rfl, fun e ne => ?_⟩
       exact hraise (.inl g2) _ e (b1.tr (But.of (Same.new ne))) upd_same
     refine ifF (decide_eq_false g2) ?_
     refine ⟨_, rfl, l, ws, rfl, hl1, w2, by omega, fun w hw => Nat.le_trans (w4 w hw) (by decide), fun G2 s2 => ⟨_, rfl, ?_⟩⟩
     have s12 := s1.trans s2
     by_cases g3 : rowF ws = false
     · refine ifT (by rw [g3]; rfl) ⟨_, rfl, x, CL, dxg, _, _, rfl, s12 _ _ hxg, lc.cls, lc.n2, rfl, _, _, rfl, rfl, rfl, fun e ne => ?_⟩
       exact hraise (.inr g3) _ e (bG.tr (But.of (s12.trans (Same.new ne)))) upd_same
     rw [if_neg (fun h => h.elim g2 g3)] at qm
     have g4 : rowF ws = true := by
       cases e : rowF ws with
       | true => rfl
       | false => exact absurd e g3
     have hlt := peek_lt hp (by omega)
     obtain ⟨b3, L3⟩ := lr_aug hlt hxg hlg (But.of s12)
     have hn : 1 ≤ n := by omega
     have e := hsr hn
     subst e
     have nxl : l ≠ x := fun e => by rw [e, hxg] at nl; cases nl
     refine ifF (by rw [g4]; rfl) ⟨_, rfl, x, CL, dxg, _, _, rfl, s12 _ _ hxg, lc.cls, lc.n2, rfl, _, _, rfl, rfl, dxg, _, s12 _ _ hxg, by show 2 < 1000; decide, ?_⟩
     have hl3 : upd G2 x (.ins CL dxg [("lines", .ref lp), ("done", .int ((d' : Int) + 1))]) l = some (.lst (ws.map V.str)) := by rw [L2.upd_ne nxl]; exact s2 _ _ hl1
     have hD3 := b3 _ _ hD nxD.symm
     change tSeq _ _ _ _ (upd G2 x (.ins CL dxg [("lines", .ref lp), ("done", .int ((d' : Int) + 1))])) 
     revert b3 L3 hl3 hD3
     generalize hG3 : upd G2 x (.ins CL dxg [("lines", .ref lp), ("done", .int ((d' : Int) + 1))]) = G3
     intro b3 L3 hl3 hD3
     obtain ⟨dx3, hx3, hlp3⟩ := id L3.at_
     have b03 := bG.tr b3
     refine ⟨_, rfl, .inl ⟨rfl, _, .inl (.inl hD3)⟩, _, rfl, x, dx3, _, rfl, hx3, rfl, _, rfl, _, rfl, x, lp, ls, d' + 1, lv, m, l, ws, rfl, L3, ok, hlv, by omega, hl3, g4, w2, by omega, qm.seq.imp (fun ⟨r, d1⟩ _ qm v G4 b4 L4 dv => ?_) (fun k _ h => h.to b03)⟩
     obtain ⟨dx4, hx4, hl4⟩ := id L4.at_
     have hD4 := b4 _ _ hD3 nxD.symm
     refine ⟨D, _, _, rfl, rfl, hD4, lt_sz (by omega), d1, acc ++ [v], done ++ [r], _, _, rfl, ?_, ⟨⟨dx4, by rw [L2.upd_ne nxD]; exact hx4, by rw [L2.upd_ne nlD]; exact hl4⟩, L4.le⟩, upd_same, ?_, by rw [List.length_append]; show acc.length + 1 + m ≤ f; omega, ?_⟩
     · intro c o hc hn
       rw [L2.upd_ne (fun e => by rw [e, nD] at hc; cases hc)]
       exact (b03.tr b4) c o hc hn
     · rw [cut_upd (show S D from .inr rfl)]
       have k1 : DpAll K (cutH S G4) acc done := dpa.kp ((b3.tr b4).kpC hxg)
       have k2 : Dp K (cutH S G4) v r := dv.mono (cut_sub fun y hy => hy.elim (fun hy => lst_but b03 hx hy) fun e => e ▸ ⟨_, hD3⟩)
       exact k1.append (.cons k2 .nil)
     · refine qm.seq.imp (fun ⟨rs, d3⟩ _ qm p xs H' bv Lv np hp dv => qm p xs H' bv Lv np hp ?_) (fun _ _ h => h)
       rw [List.append_assoc] at dv
       exact dv
end
end Op
set_option pp.maxSteps 700
namespace Op
open PySem L2 TL PyProof.Rows
def inpL (ls : List Str) (d : Nat) : Except LE (List Str × Nat) := lbnd (peekL ls d) fun (fd, ws) => if fd ≠ 0 ∨ ws.headD "" ≠ "inputs" ∨ ws.length < 2 ∨ ws.tail.all isWordS = false then .error (some (d + 1)) else .ok (ws.tail, d + 1)
def head0 (ls : List Str) (kd : Str) (d : Nat) : Except LE Unit := lbnd (peekL ls d) fun (fd, ws) => if fd ≠ 0 ∨ ws.headD "" ≠ kd then .ok () else .error none
section
variable {P : Program} {w : World} {K : PySem.W.Frag} {mg : Str → Option Value} {base : Heap} {pU pC CT CA CH pZ CL : Addr}
def spInpL (K : PySem.W.Frag) (C CT : Addr) : Sp := fun vs H Q X => ∃ (x lp : Addr) (ls : List Str) (d : Nat), vs = [.ref x] ∧ LrAt H x C lp ls d ∧ LOk ls ∧
 GoL (inpL ls d) (fun r => ∀ t H', But x H H' → LrAt H' x C lp ls r.2 → SqT K H' t (r.1.map V.str) → Q (.ref t) H') (ErL CT x H X)
theorem sc_LineReader_inputs_line : FnScope ["self", "found", "words"] ["self"] (defScope s_LineReader_inputs_line) := ⟨rfl, rfl, rfl, by decide +kernel, rfl, by decide +kernel, by decide +kernel⟩
theorem ok_inputs_line {f : Addr} {fd : FuncData} (F : Fun K "inputs_line" "LineReader.inputs_line" s_LineReader_inputs_line f fd) (T : TxtI P w K mg pU pC CT CA pZ) (lc : LrC K CL) (c_all_words : Cal P w K mg base CX0 2 "all_words" ["words"] (spAllW K)) (m_peek : Mcal P w K mg base (L2.CX P w) 2 CL "peek" ["self"] (spPeek K CL CT)) : FnOk P w K mg base (L2.CX P w) 3 f fd ["self"] (spInpL K CL CT) := by
 refine F.okX sc_LineReader_inputs_line (fun vs H Q X h => ?_) (fun cdv A outer s H vs Q X hr h => ?_)
 · obtain ⟨x, lp, ls, d, rfl, _⟩ := h
   rfl
 · obtain ⟨x, lp, ls, d, rfl, L, ok, q⟩ := h
   have c_LineReader := lc.cls
   obtain ⟨dx, hx, hl⟩ := L.at_
   refine ⟨_, (pss_cons (ps_asg (pe_mcal0 (pv 0) c_LineReader m_peek (hr.mono (by omega)) (passes_call (takes_of rfl rfl rfl rfl) (fun _ _ _ _ h => h))) (pg_tup rfl (pgs_cons (pg_name (i := 1) sc_LineReader_inputs_line.nd rfl (.inl rfl)) (pgs_cons (pg_name (i := 2) sc_LineReader_inputs_line.nd rfl (.inl rfl)) pgs_nil))))
     (pss_cons (ps_if (PW.pt (pw_or (pt_cmpR op_ne (pv 1) pe_int (nomark _)) (pw_or (pt_cmpR op_ne (pe_ix ix_list (pv 2) pe_int (fun _ _ => rfl)) pe_str (nomark _)) (pw_or (pt_cmpR op_lt (pe_callB call_len_seq (by rfl) T.b_len (by decide +kernel) (pa_cons (pv 2) pa_nil)) pe_int (nomark _)) (pw_or1 (pt_not (pt_val (pe_cal c_all_words (hr.mono (by omega)) rfl pass0 (pa_cons (pe_slice sl_list (pv 2) (po_some pe_int) po_none) pa_nil))))))))) (pss_one (ps_raise rfl (takes_of rfl rfl rfl rfl) (pmk_x T.mk_InvalidText hr rfl T.g_InvalidText T.k_InvalidText T.r_InvalidText (pa_cons (pe_op op_add (pe_fld (pv 0) rfl) pe_int) pa_nil)))) pss_nil)
     (pss_cons (ps_fldaug (pv 0) pe_int in_add)
     (pss_one (ps_ret (pe_callTy call_tuple_of (by rfl) T.b_tuple (by decide +kernel) (pa_cons (pe_slice sl_list (pv 2) (po_some pe_int) po_none) pa_nil))))))), ?_⟩
   unfold inpL at q
   refine ⟨_, rfl, x, dx, _, rfl, hx, rfl, x, lp, ls, d, rfl, L, ok, q.seq.imp (fun ⟨fd, ws⟩ hp q t l G1 s1 nt nl ht hl1 => ?_) (fun k _ h => h)⟩
   dsimp only at q ht hl1
   obtain ⟨w1, w2, w3, w4⟩ := peek_ws ok hp
   have hd0 : atI (ws.map V.str) (0 : Int) = some (V.str (ws.headD "")) := by
     cases ws with
     | nil => exact absurd rfl w2
     | cons a r => exact atI_zero _ _
   have hraise : (fd ≠ 0 ∨ ws.headD "" ≠ "inputs" ∨ ws.length < 2 ∨ ws.tail.all isWordS = false) → ErL CT x H X (d + 1) := fun h => by
     rw [if_pos h] at q
     exact q
   have e1 : (!decide (V.int fd = V.int 0)) = decide (fd ≠ 0) := by
     rw [← decide_not]
     exact decide_eq_decide.mpr ⟨fun h e => h (by rw [e]), fun h e => h (by injection e)⟩
   have e2 : (!decide (V.str (ws.headD "") = V.str "inputs")) = decide (ws.headD "" ≠ "inputs") := by
     rw [← decide_not]
     exact decide_eq_decide.mpr ⟨fun h e => h (by rw [e]), fun h e => h (by injection e)⟩
   refine ⟨t, _, rfl, ht, rfl, _, _, rfl, _, _, rfl, rfl, _, rfl, rfl, _, rfl, ?_⟩
   rw [e1]
   by_cases g1 : fd ≠ 0
   · refine ifT (decide_eq_true g1) (ifT rfl ?_)
     refine ⟨_, rfl, x, CL, dx, _, _, rfl, s1 _ _ hx, lc.cls, lc.n2, rfl, _, _, rfl, rfl, rfl, fun e ne => hraise (.inl g1) _ e (But.of (s1.trans (Same.new ne))) upd_same⟩
   refine ifF (decide_eq_false g1) ⟨_, rfl, l, _, 0, _, rfl, rfl, .inl (.inl hl1), hd0, rfl, _, rfl, ?_⟩
   rw [e2]
   by_cases g2 : ws.headD "" ≠ "inputs"
   · refine ifT (decide_eq_true g2) (ifT rfl ?_)
     refine ⟨_, rfl, x, CL, dx, _, _, rfl, s1 _ _ hx, lc.cls, lc.n2, rfl, _, _, rfl, rfl, rfl, fun e ne => hraise (.inr (.inl g2)) _ e (But.of (s1.trans (Same.new ne))) upd_same⟩
   refine ifF (decide_eq_false g2) ⟨_, rfl, l, _, rfl, .inl (.inl (.inl hl1)), _, _, rfl, rfl, _, rfl, ?_⟩
   rw [List.length_map]
   by_cases g3 : (ws.length : Int) < 2
   · refine ifT (decide_eq_true g3) (ifT rfl ?_)
     refine ⟨_, rfl, x, CL, dx, _, _, rfl, s1 _ _ hx, lc.cls, lc.n2, rfl, _, _, rfl, rfl, rfl, fun e ne => hraise (.inr (.inr (.inl (by omega)))) _ e (But.of (s1.trans (Same.new ne))) upd_same⟩
   refine ifF (decide_eq_false g3) ⟨_, rfl, _, rfl, l, _, rfl, .inl (.inl hl1), fun b nb => ?_⟩
   have hb1 : upd G1 b (.lst (cutV (ws.map V.str) (some 1) none)) b = some (.lst (ws.tail.map V.str)) := by rw [cut1d, ← List.map_drop, List.drop_one]; exact upd_same
   have s2 : Same G1 (upd G1 b (.lst (cutV (ws.map V.str) (some 1) none))) := Same.new nb
   refine ⟨b, ws.tail, rfl, hb1, fun y hy => Nat.le_trans (w4 y (List.mem_of_mem_tail hy)) (by decide), _, rfl, ?_⟩
   have s12 := s1.trans s2
   by_cases g4 : ws.tail.all isWordS = false
   · refine ifT (by rw [g4]; rfl) ?_
     refine ⟨_, rfl, x, CL, dx, _, _, rfl, s12 _ _ hx, lc.cls, lc.n2, rfl, _, _, rfl, rfl, rfl, fun e ne => hraise (.inr (.inr (.inr g4))) _ e (But.of (s12.trans (Same.new ne))) upd_same⟩
   have g5 : ws.tail.all isWordS = true := by
     cases e : ws.tail.all isWordS with
     | true => rfl
     | false => exact absurd e g4
   rw [if_neg (by rintro (h | h | h | h) <;> first | exact absurd h g1 | exact absurd h g2 | omega | exact absurd h g4)] at q
   have q : ∀ t H', But x H H' → LrAt H' x CL lp ls (d + 1) → SqT K H' t (ws.tail.map V.str) → Q (.ref t) H' := q
   have hlt := peek_lt hp (by omega)
   obtain ⟨b3, L3⟩ := lr_aug hlt hx hl (But.of s12)
   have nxl : l ≠ x := fun e => by rw [e, hx] at nl; cases nl
   refine ifF (by rw [g5]; rfl) ⟨_, rfl, x, CL, dx, _, _, rfl, s12 _ _ hx, lc.cls, lc.n2, rfl, _, _, rfl, rfl, dx, _, s12 _ _ hx, by show 2 < 1000; decide, ?_⟩
   have hl3 : upd (upd G1 b (.lst (cutV (ws.map V.str) (some 1) none))) x (.ins CL dx [("lines", .ref lp), ("done", .int ((d : Int) + 1))]) l = some (.lst (ws.map V.str)) := by rw [L2.upd_ne nxl]; exact s2 _ _ hl1
   refine ⟨_, rfl, _, rfl, l, _, rfl, .inl (.inl hl3), fun c nc => ⟨c, _, rfl, .inl ⟨.inl (.inl upd_same), fun t2 nt2 => ?_⟩⟩⟩
   have s34 := (Same.new (o := .lst (cutV (ws.map V.str) (some 1) none)) nc).trans (Same.new (o := .tup (cutV (ws.map V.str) (some 1) none)) nt2)
   refine q t2 _ (b3.tr (But.of s34)) (L3.mono s34) (.inl (.inl ?_))
   rw [show ws.tail.map V.str = cutV (ws.map V.str) (some 1) none by rw [cut1d, ← List.map_drop, List.drop_one]]
   exact upd_same
def spHead0 (K : PySem.W.Frag) (C CT : Addr) : Sp := fun vs H Q X => ∃ (x lp : Addr) (ls : List Str) (d : Nat) (kd : Str) (n : Int), vs = [.ref x, .str kd, .int n] ∧ LrAt H x C lp ls d ∧ LOk ls ∧
 GoL (head0 ls kd d) (fun _ => ∀ p H', Same H H' → H p = none → H' p = some (.lst []) → Q (.ref p) H') (ErL CT x H X)
theorem sc_LineReader_head : FnScope ["self", "kind", "least", "told", "found", "words", "rest", "fits"] ["self", "kind", "least"] (defScope s_LineReader_head) := ⟨rfl, rfl, rfl, by decide +kernel, rfl, by decide +kernel, by decide +kernel⟩
theorem ok_head0 {f : Addr} {fd : FuncData} (F : Fun K "head" "LineReader.head" s_LineReader_head f fd) (T : TxtI P w K mg pU pC CT CA pZ) (lc : LrC K CL) (c_all_words : Cal P w K mg base CX0 2 "all_words" ["words"] (spAllW K)) (m_peek : Mcal P w K mg base (L2.CX P w) 2 CL "peek" ["self"] (spPeek K CL CT)) : FnOk P w K mg base (L2.CX P w) 3 f fd ["self", "kind", "least"] (spHead0 K CL CT) := by
 refine F.okX sc_LineReader_head (fun vs H Q X h => ?_) (fun cdv A outer s H vs Q X hr h => ?_)
 · obtain ⟨x, lp, ls, d, kd, n, rfl, _⟩ := h
   rfl
 · obtain ⟨x, lp, ls, d, kd, n, rfl, L, ok, q⟩ := h
   have c_LineReader := lc.cls
   obtain ⟨tk, hL⟩ := T.g_DIGITS
   obtain ⟨dx, hx, hl⟩ := L.at_
   refine ⟨_, (pss_cons (ps_set (i := 3) sc_LineReader_head.nd rfl (.inl rfl) (pe_lst pa_nil))
     (pss_one (ps_while (passes_of rfl) (pt_val pe_bl) (pss_cons (ps_asg (pe_mcal0 (pv 0) c_LineReader m_peek (hr.mono (by omega)) (passes_call (takes_of rfl rfl rfl rfl) (fun _ _ _ _ h => h))) (pg_tup rfl (pgs_cons (pg_name (i := 4) sc_LineReader_head.nd rfl (.inl rfl)) (pgs_cons (pg_name (i := 5) sc_LineReader_head.nd rfl (.inl rfl)) pgs_nil))))
     (pss_cons (ps_if (PW.pt (pw_or (pt_cmpR op_ne (pv 4) pe_int (nomark _)) (pw_or1 (pt_cmpR op_ne (pe_ix ix_list (pv 5) pe_int (fun _ _ => rfl)) (pv 1) (nomark _))))) (pss_one (ps_ret (pv 3))) pss_nil)
     (pss_cons (ps_set (i := 6) sc_LineReader_head.nd rfl (.inl rfl) (pe_slice sl_list (pv 5) (po_some pe_int) po_none))
     (pss_cons (ps_set (i := 7) sc_LineReader_head.nd rfl (.inl rfl) (pe_cmpR op_ge (pe_callB call_len_seq (by rfl) T.b_len (by decide +kernel) (pa_cons (pv 5) pa_nil)) (pv 2) (nomark _)))
     (pss_cons (ps_if (PW.pt (pw_and (pt_val (pv 7)) (pw_and1 (pt_cmpR op_eq (pv 1) pe_str (nomark _))))) (pss_cons (ps_set (i := 7) sc_LineReader_head.nd rfl (.inl rfl) (pe_and (pe_cmpR op_eq (pe_callB call_len_str (by rfl) T.b_len (by decide +kernel) (pa_cons (pe_ix ix_list (pv 6) pe_int (fun _ _ => rfl)) pa_nil)) pe_int (nomark _)) (pe_one (pe_cmpR op_in_sign (pe_ix ix_list (pv 6) pe_int (fun _ _ => rfl)) (pe_glob (v := .str digits) rfl hL ⟨_, rfl⟩) (by rfl)))))
     (pss_one (ps_set (i := 6) sc_LineReader_head.nd rfl (.inl rfl) (pe_op op_cat (pe_slice sl_list (pv 6) po_none (po_some pe_int)) (pe_slice sl_list (pv 6) (po_some pe_int) po_none))))) pss_nil)
     (pss_cons (ps_if (PW.pt (pw_or (pt_not (pt_val (pv 7))) (pw_or (pt_not (pt_val (pe_cal c_all_words (hr.mono (by omega)) rfl pass0 (pa_cons (pv 6) pa_nil)))) (pw_or1 (PW.pt (pw_and (pt_truth (pv 3) (by intro _; rfl)) (pw_and1 (pt_cmpR op_le_str (pe_ix ix_list (pv 5) pe_int (fun _ _ => rfl)) (pe_ix ix_list (pe_ix ix_list (pv 3) (pe_un un_neg pe_int) (fun _ _ => rfl)) pe_int (fun _ _ => rfl)) (nomark _))))))))) (pss_one (ps_raise rfl (takes_of rfl rfl rfl rfl) (pmk_x T.mk_InvalidText hr rfl T.g_InvalidText T.k_InvalidText T.r_InvalidText (pa_cons (pe_op op_add (pe_fld (pv 0) rfl) pe_int) pa_nil)))) pss_nil)
     (pss_cons (ps_expr (pe_bm PySem.F.plainAttrs_list PySem.F.slot_list_append PySem.F.type_list_append mt_append (pv 3) (pa_cons (pv 5) pa_nil)))
     (pss_one (ps_fldaug (pv 0) pe_int in_add)))))))))))), ?_⟩
   unfold head0 at q
   refine ⟨Nat.zero_le _, fun D nD => ?_⟩
   have s0 : Same H (upd H D (.lst [])) := Same.new nD
   refine ⟨fun m σ G => σ = [some (.ref x), some (.str kd), some (.int n), some (.ref D), none, none, none, none] ∧ G = upd H D (.lst []), ⟨0, rfl, rfl⟩, ?_⟩
   rintro m σ G ⟨rfl, rfl⟩
   refine ⟨_, rfl, ifT rfl ⟨fun _ _ => False, fun σ' H' z => z.elim, ?_⟩⟩
   refine ⟨_, rfl, x, dx, _, rfl, s0 _ _ hx, rfl, x, lp, ls, d, rfl, L.mono s0, ok, q.seq.imp (fun ⟨fd, ws⟩ hp q t l G1 s1 nt nl ht hl1 => ?_) (fun k _ h => h.to (But.of s0))⟩
   dsimp only at q ht hl1
   obtain ⟨w1, w2, w3, w4⟩ := peek_ws ok hp
   have hd0 : atI (ws.map V.str) (0 : Int) = some (V.str (ws.headD "")) := by
     cases ws with
     | nil => exact absurd rfl w2
     | cons a r => exact atI_zero _ _
   have e1 : (!decide (V.int fd = V.int 0)) = decide (fd ≠ 0) := by
     rw [← decide_not]
     exact decide_eq_decide.mpr ⟨fun h e => h (by rw [e]), fun h e => h (by injection e)⟩
   have e2 : (!decide (V.str (ws.headD "") = V.str kd)) = decide (ws.headD "" ≠ kd) := by
     rw [← decide_not]
     exact decide_eq_decide.mpr ⟨fun h e => h (by rw [e]), fun h e => h (by injection e)⟩
   refine ⟨t, _, rfl, ht, rfl, _, _, rfl, _, _, rfl, rfl, _, rfl, rfl, _, rfl, ?_⟩
   rw [e1]
   have fin : (fd ≠ 0 ∨ ws.headD "" ≠ kd) → Q (.ref D) G1 := fun h => by
     rw [if_pos h] at q
     have q : ∀ p H', Same H H' → H p = none → H' p = some (.lst []) → Q (.ref p) H' := q
     exact q D G1 (s0.trans s1) nD (s1 _ _ upd_same)
   by_cases g1 : fd ≠ 0
   · exact ifT (decide_eq_true g1) (ifT rfl ⟨_, rfl, fin (.inl g1)⟩)
   refine ifF (decide_eq_false g1) ⟨_, rfl, l, _, 0, _, rfl, rfl, .inl (.inl hl1), hd0, _, rfl, rfl, _, rfl, ?_⟩
   rw [e2]
   by_cases g2 : ws.headD "" ≠ kd
   · exact ifT (decide_eq_true g2) ⟨_, rfl, fin (.inr g2)⟩
   rw [if_neg (by rintro (h | h) <;> contradiction)] at q
   exact q.elim
end
end Op
namespace L2
open PySem PySem.Spec PyProof.Rows
section
variable {X : Cx}
theorem ps_setDc {i : Nat} {y : Str} {py : Pos} {kx vx tg iter : Expr} {ifs : List Expr} {scope : Scope} {own : List (Str × Nat)} {pos spos : Pos} {wi : TI} {g : TG} {tt : TT} {tk tv : TE} (hc : X.calm = true) (hN : X.N.Nodup) (hy : X.N[i]? = some y) (hyl : X.env.scope.names.lookup y = some .local)
   (hsw : swapsWith (.DictComp kx vx [⟨tg, iter, ifs, 0⟩] scope pos) (some (.Name y py)) spos.line X.env = pure true) (hi : PI X tg iter wi) (ok : BlkOk X.N X.env.scope scope own)
   (hg : ∀ (s : Shared) (H : Hp) (C : Addr) (cl : List (Str × Addr)) (fp : List Addr), PG (X.blk s H scope (compEnvC scope cl C X.env) fp) tg g) (ht : ∀ (s : Shared) (H : Hp) (C : Addr) (cl : List (Str × Addr)) (fp : List Addr), PTs (X.blk s H scope (compEnvC scope cl C X.env) fp) ifs tt)
   (hk : ∀ (s : Shared) (H : Hp) (C : Addr) (cl : List (Str × Addr)) (fp : List Addr), PE (X.blk s H scope (compEnvC scope cl C X.env) fp) kx tk)
   (he : ∀ (s : Shared) (H : Hp) (C : Addr) (cl : List (Str × Addr)) (fp : List Addr), PE (X.blk s H scope (compEnvC scope cl C X.env) fp) vx tv) (hs : ∀ x, foldedSetIterable iter X.env x = pure x := by intro _; rfl) :
   PS X (.Assign [.Name y py] (.DictComp kx vx [⟨tg, iter, ifs, 0⟩] scope pos) spos) (tAsg (tDc wi g tt tk tv (own.map (·.2))) (gName i)) := by
 refine ⟨fun pins s σ H D I h => ?_⟩
 rw [exec_Assign_Name_used _ _ _ _ hsw]
 refine wpAny_bind (wpAny_standAt (wpAny_bind ?_))
 show wpAny _ X.A (do let _ ← comprehension (.DictComp kx vx [⟨tg, iter, ifs, 0⟩] scope pos) scope X.env (firstIterPos [⟨tg, iter, ifs, 0⟩] pos) newDict false (eval iter X.env) (some (assign (.Name y py) X.env))) _ _ s
 have h : tDc wi g tt tk tv (own.map (·.2)) σ H (fun x H1 => gName i x σ H1 D.nx) := h
 refine wpAny_bind (thn (dc_core (Qf := fun _ s' => SP X pins D .next s') hc hN I hi ok hg ht hk he hs h fun L C s' m H' I' q hn f => ?_) fun _ s' hq => wpAny_pure (wpAny_pure hq))
 show wpAny _ _ (assign (.Name y py) X.env (.ref L)) _ _ _
 refine wpAny_assign_Name (store_ok2 (v := V.ref L) I' hN hy (.inl hyl) rfl (fun s2 I2 ⟨a, sb, ha⟩ => ?_) (.inr hyl))
 obtain ⟨f0, f1, f2, f3, f4, f5⟩ := f
 have haC : C ≠ a := by
   rcases ha with z | z
   · rw [z]; exact f1
   · exact fun e => f4 y a z e.symm
 refine ⟨m, hn.sameBut sb haC, fun h3 sb3 => ?_⟩
 exact ⟨_, H', I2.turned (t' := s2.toks) (fun b o hb e => (sb3.2 b hb).trans e) f0 f1 f3 f4 f5, q⟩
theorem sw_trueD {kx vx : Expr} {gs : List Comprehension} {scope : Scope} {pos py : Pos} {y : Str} {l : Nat} {env : Env} (hk : env.scope.kind = .function) (hy : env.scope.names.lookup y = some .local) (hl : (py.line == pos.line) = true)
   (ha : (scope.names.any fun (n, k) => n == y && (k == .local || k == .cell)) = false) : swapsWith (.DictComp kx vx gs scope pos) (some (.Name y py)) l env = pure true := by
 have ky : env.kindOf y = some .local := hy
 have hb : env.blockKind = .function := by unfold Env.blockKind; rw [hk]; rfl
 unfold swapsWith
 simp only [hb, ky, ha, Expr.pos, hl]
 rfl
end
end L2
set_option pp.maxSteps 700
namespace L2
open PySem PySem.Spec PyProof.Rows
def KcalN (P : Program) (w : World) (K : PySem.W.Frag) (mg : Str → Option Value) (base : Heap) (CX : CXT) (k : Nat) (x : Str) (C : Addr) (ps : List Str) (n : Nat) (ks : List Str) (sp : Sp) : Prop :=
 ∃ (f : Addr) (fd : FuncData) (g : List Value → List Value → List Value), Mk K C f ∧ mg x = some (.ref C) ∧ KBn K fd ps (n + 1) ks g (fun vs zs => vs ++ zs) ∧ FnOk P w K mg base CX k f fd ps sp
theorem pe_kcalN {X : Cx} {CX : CXT} {k n : Nat} {x : Str} {C : Addr} {ps ks : List Str} {sp : Sp} {E : XK} {p pos : Pos} {e : Expr} {es : List Expr} {kws : List Keyword} {t tk : TA} (c : KcalN X.prog X.w X.K X.mg X.base CX k x C ps n ks sp) (hr : Room (k + 1) X.A) (hg : Gl X x) (hx : Passes CX X E) (ha : PA X (e :: es) t) (hkw : PK X kws tk)
   (hall : (backToKw pos (keywordEach kws X.env)).all (·.1.isSome) = true := by rfl) (hks : (backToKw pos (keywordEach kws X.env)).filterMap (·.1) = ks := by rfl) (hdb : (x == ("__debug__" : Str)) = false := by decide)
   (he : starEach (e :: es) X.env = (false, eval e X.env) :: starEach es X.env := by rfl) (hpl : ((backTo pos (starEach (e :: es) X.env)).any (·.1) || (backToKw pos (keywordEach kws X.env)).any (·.1.isNone)) = false := by rfl) :
   PE X (.Call (.Name x p) (e :: es) kws pos) (tMakeK C n ks.length sp (fun vs zs => vs ++ zs) E t tk) := by
 obtain ⟨f, fd, g, h1, h2, h3, h4⟩ := c
 exact pe_makeK h1 h4 hr hg h2 h3 hx ha hkw hall hks hdb he hpl
end L2
namespace Op
open PySem L2 TL PyProof.Rows
def readL (f : Nat) (ls : List Str) : Except LE (List Str × List PyData) :=
 lbnd (head0 ls "ask" 0) fun _ => lbnd (head0 ls "signal" 0) fun _ => lbnd (inpL ls 0) fun (ins, d1) => lbnd (expL ls 0 "rows" d1) fun d2 => lbnd (blockL ls f 1 d2) fun (ds, d3) => if d3 ≠ ls.length then .error (some (d3 + 1)) else .ok (ins, ds)
def rTupleOf (K : PySem.W.Frag) : List V → Hp → VK → Prop := fun xs H Q => ∃ p ys, xs = [.ref p] ∧ ((SqL K H p ys ∧ ∀ l, H l = none → Q (.ref l) (upd H l (.tup ys))) ∨ (SqT K H p ys ∧ Q (.ref p) H))
def rIntS : List V → Hp → VK → Prop := fun xs H Q => ∃ a n, xs = [.str a] ∧ PySem.intText? a = some n ∧ a.length ≤ 640 ∧ Q (.int n) H
def NoS (K : PySem.W.Frag) (H : Hp) (v : V) : Prop := (∃ d, Dp K H v d ∧ isStr d = false) ∨ ∃ p o, v = .ref p ∧ H p = some (.dK o)
theorem same_but {x : Addr} {H Hi H1 : Hp} (nx : H x = none) (s : Same H Hi) (b : But x Hi H1) : Same H H1 := fun c o h => b c o (s _ _ h) fun e => by rw [e, nx] at h; cases h
theorem inp_ok {ls : List Str} {d d1 : Nat} {ins : List Str} (ok : LOk ls) (h : inpL ls d = .ok (ins, d1)) : ins.length ≤ 90001 ∧ ∀ w ∈ ins, isWordS w = true := by
 unfold inpL at h
 cases hp : peekL ls d with
 | error e => rw [hp] at h; cases h
 | ok r =>
   obtain ⟨fd, ws⟩ := r
   rw [hp] at h
   have h : (if fd ≠ 0 ∨ ws.headD "" ≠ "inputs" ∨ ws.length < 2 ∨ ws.tail.all isWordS = false then (.error (some (d + 1)) : Except LE (List Str × Nat)) else .ok (ws.tail, d + 1)) = .ok (ins, d1) := h
   split at h
   · cases h
   · rename_i hn
     obtain ⟨rfl, rfl⟩ := Prod.mk.inj (Except.ok.inj h)
     obtain ⟨_, _, w3, _⟩ := peek_ws ok hp
     refine ⟨by rw [List.length_tail]; omega, fun w hw => ?_⟩
     cases e : ws.tail.all isWordS with
     | true => exact List.all_eq_true.mp e w hw
     | false => exact absurd (.inr (.inr (.inr e))) hn
theorem small_strsL {ins : List Str} (h1 : ins.length ≤ 90001) (h2 : ∀ w ∈ ins, isWordS w = true) : small (.tuple (ins.map .str)) = true := by
 have key : ∀ l : List Str, (∀ w ∈ l, isWordS w = true) → smalls (l.map .str) = true := by
   intro l
   induction l with
   | nil => intro _; rfl
   | cons a r ih =>
     intro h
     have := wordS_len (h a List.mem_cons_self)
     show (decide (a.length ≤ 100000) && smalls (r.map .str)) = true
     rw [decide_eq_true (by omega), ih fun w hw => h w (List.mem_cons_of_mem _ hw)]
     rfl
 show (decide ((ins.map PyData.str).length ≤ 100000) && smalls (ins.map .str)) = true
 rw [decide_eq_true (by rw [List.length_map]; omega), key ins h2]
 rfl
section
variable {P : Program} {w : World} {K : PySem.W.Frag} {mg : Str → Option Value} {base : Heap} {pU pC CT CA CH pZ CL CP CI : Addr}
def spReadP (K : PySem.W.Frag) (CT CA CP CI : Addr) : Sp := fun vs H Q X => (∃ v, vs = [v] ∧ NoS K H v ∧ ∀ H' e, Same H H' → XArg H' e "text" → X (.ref CA) (some e) H') ∨
 ∃ (z : Str) (f : Nat), vs = [.str z] ∧ z.length + 2 ≤ sizeLine ∧ LOk (Txt.split z "\n") ∧ f ≤ 90000 ∧ GoL (readL f (Txt.split z "\n")) (fun r => wts r.2 ≤ 29000 ∧
   (∀ part path, progCheck false (.dict []) (.dict []) (.tuple (r.1.map .str)) (.list r.2) = .error (part, path) → ∀ H' e, Same H H' → XProg K H' e part path → X (.ref CI) (some e) H') ∧
   ((∀ part path, progCheck false (.dict []) (.dict []) (.tuple (r.1.map .str)) (.list r.2) ≠ .error (part, path)) → ∀ p dx fs H', Same H H' → H p = none → H' p = some (.ins CP dx fs) → Q (.ref p) H')) (fun k => ∀ H' e, Same H H' → XLine H' e k → X (.ref CT) (some e) H')
theorem sc_read_program : FnScope ["text", "reader", "asks", "signals", "inputs", "rows", "words"] ["text"] (defScope s_read_program) := ⟨rfl, rfl, rfl, by decide +kernel, rfl, by decide +kernel, by decide +kernel⟩
theorem ok_read_program {f : Addr} {fd : FuncData} {kb : Nat} (hkb : 14 ≤ kb) (F : Fun K "read_program" "read_program" s_read_program f fd) (T : TxtI P w K mg pU pC CT CA pZ) (lc : LrC K CL) (k_LineReader : Kcal P w K mg base CX0 1 "LineReader" CL ["self", "text"] (spLrInit CL))
   (m_head : Mcal P w K mg base (L2.CX P w) 3 CL "head" ["self", "kind", "least"] (spHead0 K CL CT)) (m_inputs_line : Mcal P w K mg base (L2.CX P w) 3 CL "inputs_line" ["self"] (spInpL K CL CT)) (m_expect : Mcal P w K mg base (L2.CX P w) 3 CL "expect" ["self", "level", "word"] (spExp K CL CT)) (m_block : Mcal P w K mg base (L2.CX P w) kb CL "block" ["self", "level"] (spBlk K CL CT 12))
   (k_Program : KcalN P w K mg base (L2.CX P w) 13 "Program" CP ["self", "rows", "asks", "signals", "inputs"] 1 ["asks", "signals", "inputs"] (spProg K CP CI)) :
   FnOk P w K mg base (L2.CX P w) (kb + 1) f fd ["text"] (spReadP K CT CA CP CI) := by
 refine F.okX sc_read_program (fun vs H Q X h => ?_) (fun cdv A outer s H vs Q X hr h => ?_)
 · rcases h with ⟨v, rfl, _⟩ | ⟨z, f, rfl, _⟩ <;> rfl
 · have c_LineReader := lc.cls
   refine ⟨_, (pss_cons (ps_if (pt_not (pt_val (pe_callB call_isi (by rfl) T.b_isinstance (by decide +kernel) (pa_cons (pv 0) (pa_cons (pe_bltn (v := .ty "str") (by rfl) T.b_str (by decide +kernel) rfl) pa_nil))))) (pss_one (ps_raise rfl (takes_of rfl rfl rfl rfl) (pmk_x T.mk_InvalidArgument hr rfl T.g_InvalidArgument T.k_InvalidArgument T.r_InvalidArgument (pa_cons pe_str pa_nil)))) pss_nil)
     (pss_cons (ps_set (i := 1) sc_read_program.nd rfl (.inl rfl) (pe_kcal k_LineReader (hr.mono (by omega)) rfl pass0 (pa_cons (pv 0) pa_nil)))
     (pss_cons (ps_setDc (i := 2) (own := [("words", 6)]) (g := gName 6) (tt := tYes) (tk := (tOp (rIxL K) (tVar 6) (tC (.int 1)))) (tv := (tCB (rTupleOf K) (tCons (tSl (rSlL K) (tVar 6) (tPart (tC (.int 2))) tNoPart) tNil))) rfl sc_read_program.nd rfl rfl (sw_trueD rfl rfl rfl (by decide +kernel)) (pi_list (pe_mcal (pv 1) c_LineReader m_head (hr.mono (by omega)) (passes_call (takes_of rfl rfl rfl rfl) (fun _ _ _ _ h => h)) (pa_cons pe_str (pa_cons pe_int pa_nil)))) (blkOk_by (own := [("words", 6)]) (N := ["text", "reader", "asks", "signals", "inputs", "rows", "words"]) (sc := defScope s_read_program) (by decide +kernel)) (fun _ _ _ _ _ => (pg_name (i := 6) sc_read_program.nd rfl (.inl rfl))) (fun _ _ _ _ _ => pts_nil) (fun _ _ _ _ _ => (pe_ix ix_list (pv 6) pe_int (fun _ _ => rfl))) (fun _ _ _ _ _ => (pe_callTy (T := "tuple") (r := rTupleOf K) call_tuple_of (by rfl) T.b_tuple (by decide +kernel) (pa_cons (pe_slice sl_list (pv 6) (po_some pe_int) po_none) pa_nil))))
     (pss_cons (ps_setDc (i := 3) (own := [("words", 6)]) (g := gName 6) (tt := tYes) (tk := (tOp (rIxL K) (tVar 6) (tC (.int 1)))) (tv := (tTup (tCons (tCB rIntS (tCons (tOp (rIxL K) (tVar 6) (tC (.int 2))) tNil)) (tCons (tCB (rTupleOf K) (tCons (tSl (rSlL K) (tVar 6) (tPart (tC (.int 3))) tNoPart) tNil)) tNil)))) rfl sc_read_program.nd rfl rfl (sw_trueD rfl rfl rfl (by decide +kernel)) (pi_list (pe_mcal (pv 1) c_LineReader m_head (hr.mono (by omega)) (passes_call (takes_of rfl rfl rfl rfl) (fun _ _ _ _ h => h)) (pa_cons pe_str (pa_cons pe_int pa_nil)))) (blkOk_by (own := [("words", 6)]) (N := ["text", "reader", "asks", "signals", "inputs", "rows", "words"]) (sc := defScope s_read_program) (by decide +kernel)) (fun _ _ _ _ _ => (pg_name (i := 6) sc_read_program.nd rfl (.inl rfl))) (fun _ _ _ _ _ => pts_nil) (fun _ _ _ _ _ => (pe_ix ix_list (pv 6) pe_int (fun _ _ => rfl))) (fun _ _ _ _ _ => (pe_tup (pa_cons (pe_callTy (T := "int") (r := rIntS) call_int_str (by rfl) T.b_int (by decide +kernel) (pa_cons (pe_ix ix_list (pv 6) pe_int (fun _ _ => rfl)) pa_nil)) (pa_cons (pe_callTy (T := "tuple") (r := rTupleOf K) call_tuple_of (by rfl) T.b_tuple (by decide +kernel) (pa_cons (pe_slice sl_list (pv 6) (po_some pe_int) po_none) pa_nil)) pa_nil)))))
     (pss_cons (ps_set (i := 4) sc_read_program.nd rfl (.inl rfl) (pe_mcal0 (pv 1) c_LineReader m_inputs_line (hr.mono (by omega)) (passes_call (takes_of rfl rfl rfl rfl) (fun _ _ _ _ h => h))))
     (pss_cons (ps_expr (pe_mcal (pv 1) c_LineReader m_expect (hr.mono (by omega)) (passes_call (takes_of rfl rfl rfl rfl) (fun _ _ _ _ h => h)) (pa_cons pe_int (pa_cons pe_str pa_nil))))
     (pss_cons (ps_set (i := 5) sc_read_program.nd rfl (.inl rfl) (pe_mcal (pv 1) c_LineReader m_block (hr.mono (by omega)) (passes_call (takes_of rfl rfl rfl rfl) (fun _ _ _ _ h => h)) (pa_cons pe_int pa_nil)))
     (pss_cons (ps_if (pt_cmpR op_ne (pe_fld (pv 1) rfl) (pe_callB call_len_seq (by rfl) T.b_len (by decide +kernel) (pa_cons (pe_fld (pv 1) rfl) pa_nil)) (nomark _)) (pss_one (ps_raise rfl (takes_of rfl rfl rfl rfl) (pmk_x T.mk_InvalidText hr rfl T.g_InvalidText T.k_InvalidText T.r_InvalidText (pa_cons (pe_op op_add (pe_fld (pv 1) rfl) pe_int) pa_nil)))) pss_nil)
     (pss_one (ps_ret (pe_kcalN k_Program (hr.mono (by omega)) rfl (passes_call (takes_of rfl rfl rfl rfl) (fun _ _ _ _ h => h)) (pa_cons (pv 5) pa_nil) (pk_cons (pv 2) (pk_cons (pv 3) (pk_cons (pv 4) pk_nil)))))))))))))), ?_⟩
   rcases h with ⟨v, rfl, ⟨d, hd, hs⟩ | ⟨p, o, rfl, hp⟩, k⟩ | ⟨z, f, rfl, hz, ok, hf, q⟩
   · exact ⟨_, rfl, v, _, _, _, _, rfl, .ty _, ty_dp hd, kit_str d, _, rfl, ifT (by rw [hs]; rfl) ⟨rfl, fun e ne => k _ e (Same.new ne) upd_same⟩⟩
   · exact ⟨_, rfl, .ref p, _, _, _, _, rfl, .ty _, TyX.base (.dK hp), kit_ty (show kitB "dict" "str" = some false by decide +kernel), _, rfl, ifT rfl ⟨rfl, fun e ne => k _ e (Same.new ne) upd_same⟩⟩
   refine ⟨_, rfl, .str z, _, _, _, _, rfl, .ty _, ty_dp (.str z), kit_str (.str z), _, rfl, ifF rfl ?_⟩
   unfold readL at q
   refine ⟨_, rfl, fun x dx nx ndx nxd => ⟨x, dx, z, rfl, upd_same, hz, ok.n, fun lp H1 nlp b1 L1 => ⟨rfl, ?_⟩⟩⟩
   revert q ok L1
   generalize Txt.split z "\n" = ls
   intro ok q L1
   have sHi : Same H (upd (upd H dx (.own x)) x (.ins CL dx [])) := (Same.new ndx).trans (Same.new (by rw [L2.upd_ne (Ne.symm nxd)]; exact nx))
   have toS : ∀ {G : Hp}, But x H1 G → Same H G := fun b => same_but nx sHi (b1.tr b)
   have er : ∀ {G : Hp} {k : Nat}, But x H1 G → (∀ H' e, Same H H' → XLine H' e k → X (.ref CT) (some e) H') → ErL CT x G X k := fun bG h H' e b he => h H' e (toS (bG.tr b)) he
   obtain ⟨dx1, hx1, hl1⟩ := id L1.at_
   refine ⟨_, rfl, x, dx1, _, rfl, hx1, rfl, x, lp, ls, 0, "ask", 3, rfl, L1, ok, q.seq.imp (fun _ _ q p H2 s2 np hp => ?_) (fun k _ h => er (But.of (Same.refl H1)) h)⟩
   refine ⟨p, rfl, ⟨_, .inl (.inl hp)⟩, fun D1 nD1 => dc_it (walk_list (xs := [])) (fun i G => G = upd H2 D1 (.dK [])) rfl (fun i G _ h => by rw [h]; exact .inl (.inl (Same.new nD1 _ _ hp))) (fun i x G G' hi => absurd hi (Nat.not_lt_zero _)) (fun G hG => ?_)⟩
   subst hG
   have s2' : Same H1 (upd H2 D1 (.dK [])) := s2.trans (Same.new nD1)
   have hD1 : upd H2 D1 (.dK []) D1 = some (.dK []) := upd_same
   have nD1' : H D1 = none := same_no ((toS (But.of s2))) nD1
   revert s2' hD1
   generalize upd H2 D1 (.dK []) = G2
   intro s2' hD1
   refine ⟨_, rfl, x, dx1, _, rfl, s2' _ _ hx1, rfl, x, lp, ls, 0, "signal", 4, rfl, L1.mono s2', ok, q.seq.imp (fun _ _ q p3 H3 s3 np3 hp3 => ?_) (fun k _ h => er (But.of s2') h)⟩
   refine ⟨p3, rfl, ⟨_, .inl (.inl hp3)⟩, fun D2 nD2 => dc_it (walk_list (xs := [])) (fun i G => G = upd H3 D2 (.dK [])) rfl (fun i G _ h => by rw [h]; exact .inl (.inl (Same.new nD2 _ _ hp3))) (fun i x G G' hi => absurd hi (Nat.not_lt_zero _)) (fun G hG => ?_)⟩
   subst hG
   have s3' : Same H1 (upd H3 D2 (.dK [])) := (s2'.trans s3).trans (Same.new nD2)
   have hD1 := Same.new (o := .dK []) nD2 _ _ (s3 _ _ hD1)
   have hD2 : upd H3 D2 (.dK []) D2 = some (.dK []) := upd_same
   have nD2' : H D2 = none := same_no (toS (But.of (s2'.trans s3))) nD2
   revert s3' hD1 hD2
   generalize upd H3 D2 (.dK []) = G3
   intro s3' hD1 hD2
   have hx3 := s3' _ _ hx1
   have nxD1 : D1 ≠ x := fun e => by rw [e, hx3] at hD1; cases hD1
   have nxD2 : D2 ≠ x := fun e => by rw [e, hx3] at hD2; cases hD2
   refine ⟨_, rfl, x, dx1, _, rfl, hx3, rfl, x, lp, ls, 0, rfl, L1.mono s3', ok, q.seq.imp (fun ⟨ins, d1⟩ hin q t H4 b4 L4 ht => ?_) (fun k _ h => er (But.of s3') h)⟩
   obtain ⟨i1, i2⟩ := inp_ok ok hin
   have c4 : But x H1 H4 := (But.of s3').tr b4
   obtain ⟨dx4, hx4, hl4⟩ := id L4.at_
   refine ⟨_, rfl, x, dx4, _, rfl, hx4, rfl, x, lp, ls, d1, 0, "rows", rfl, L4, ok, q.seq.imp (fun d2 _ q H5 b5 L5 => ?_) (fun k _ h => er c4 h)⟩
   have c5 := c4.tr b5
   obtain ⟨dx5, hx5, hl5⟩ := id L5.at_
   refine ⟨_, rfl, x, dx5, _, rfl, hx5, rfl, x, lp, ls, d2, 1, f, rfl, L5, ok, by decide, hf, q.seq.imp (fun ⟨ds, d3⟩ _ q pr xs H6 b6 L6 npr hpr dpr => ?_) (fun k _ h => er c5 h)⟩
   have c6 := c5.tr b6
   obtain ⟨dx6, hx6, hl6⟩ := id L6.at_
   dsimp only at q dpr hx6
   refine ⟨_, rfl, _, _, _, _, _, rfl, hx6, lc.cls, lc.n2, rfl, _, rfl, _, _, _, _, _, rfl, hx6, lc.cls, lc.n1, rfl, lp, _, rfl, .inl (.inl (.inl hl6)), rfl, _, rfl, ?_⟩
   have e1 : (!decide (V.int (d3 : Int) = V.int ((ls.map V.str).length : Int))) = decide (d3 ≠ ls.length) := by
     rw [List.length_map, ← decide_not]
     exact decide_eq_decide.mpr ⟨fun h e => h (by rw [e]), fun h e => h (by injection e with e; omega)⟩
   rw [e1]
   by_cases g1 : d3 ≠ ls.length
   · rw [if_pos g1] at q
     have q : ∀ H' e, Same H H' → XLine H' e (d3 + 1) → X (.ref CT) (some e) H' := q
     exact ifT (decide_eq_true g1) ⟨_, rfl, x, CL, dx6, _, _, rfl, hx6, lc.cls, lc.n2, rfl, _, _, rfl, rfl, rfl, fun e ne => q _ e ((toS c6).trans (Same.new ne)) upd_same⟩
   rw [if_neg g1] at q
   obtain ⟨qw, qe, qo⟩ := q
   dsimp only at qw qe qo
   refine ifF (decide_eq_false g1) ?_
   have hD1' := b6 _ _ (b5 _ _ (b4 _ _ hD1 nxD1) nxD1) nxD1
   have hD2' := b6 _ _ (b5 _ _ (b4 _ _ hD2 nxD2) nxD2) nxD2
   have dt : Dp K H6 (.ref t) (.tuple (ins.map .str)) := Dp.kp (fun c o e hs => (b5.tr b6) c o e fun z => by
     rw [z, hx4] at e
     rw [← Option.some.inj e] at hs
     cases hs) (.tup ht (dpa_strsL ins))
   have dr : Dp K H6 (.ref pr) (.list ds) := .lst (.inl (.inl hpr)) (dpr.mono cut_all)
   refine ⟨_, rfl, _, rfl, _, rfl, _, rfl, rfl, rfl, fun px pdx npx npdx nd => ?_⟩
   have s7 : Same H6 (upd (upd H6 pdx (.own px)) px (.ins CP pdx [])) := (Same.new npdx).trans (Same.new (by rw [L2.upd_ne (Ne.symm nd)]; exact npx))
   have nPx : H px = none := same_no (toS c6) npx
   refine ⟨px, pdx, .ref pr, .ref D1, .ref D2, .ref t, .dict [], .dict [], .tuple (ins.map .str), .list ds, rfl, upd_same, ⟨D1, [], rfl, s7 _ _ hD1', trivial, List.nodup_nil⟩, ⟨D2, [], rfl, s7 _ _ hD2', trivial, List.nodup_nil⟩, ⟨Nat.zero_le _, fun p hp => (List.not_mem_nil hp).elim⟩, ⟨Nat.zero_le _, fun p hp => (List.not_mem_nil hp).elim⟩, dt.mono s7, .inl (dr.mono s7), small_strsL i1 i2, by rw [wt_list]; omega, ?_, ?_⟩
   · intro ka ks ds' c e1 e2 e3 e4 hc H' A kva kvs ls' ss gs b ex eC _ _ _ _ _ _ _ _ _ _ _ _ po
     have ob := cut_at po.ob
     rw [ex, eC] at ob
     refine ⟨rfl, qo (fun part path he => ?_) px _ _ H' (same_but nPx ((toS c6).trans s7) b) nPx ob⟩
     obtain rfl : ds = ds' := by injection e4
     unfold progCheck at he
     rw [e1] at he
     dsimp only at he
     rw [e2] at he
     dsimp only at he
     rw [if_pos e3, hc] at he
     cases he
   · intro part path he H' d fr hxp
     refine qe part path he H' d (fun c o hc => fr c o (s7 _ _ (toS c6 _ _ hc)) fun hm => ?_) hxp
     rcases List.mem_cons.mp hm with rfl | hm
     · rw [nPx] at hc; cases hc
     rcases List.mem_append.mp hm with hm | hm
     · have : c = D1 := List.mem_singleton.mp hm
       rw [this, nD1'] at hc; cases hc
     · have : c = D2 := List.mem_singleton.mp hm
       rw [this, nD2'] at hc; cases hc
end
end Op
set_option pp.maxSteps 700
namespace Op
open PySem L2 TL PyProof.Rows
section
variable {P : Program} {w : World} {K : PySem.W.Frag} {mg : Str → Option Value} {base : Heap} {pU pC CT CA CH pZ CL CP CI : Addr}
def spPTextX (K : PySem.W.Frag) (CA : Addr) : Sp := fun vs H _ X => ∃ v, vs = [v] ∧ NoP K H v ∧ ∀ H' e, Same H H' → XArg H' e "program" → X (.ref CA) (some e) H'
theorem sc_program_text : FnScope ["program", "asks", "signals", "lines", "key", "room", "words"] ["program"] (defScope s_program_text) := ⟨rfl, rfl, rfl, by decide +kernel, rfl, by decide +kernel, by decide +kernel⟩
theorem ok_ptextX {f : Addr} {fd : FuncData} (F : Fun K "program_text" "program_text" s_program_text f fd) (c_check_program : Cal P w K mg base (L2.CX P w) 1 "check_program" ["value", "part"] (spCkP K CA CP)) : FnOk P w K mg base (L2.CX P w) 2 f fd ["program"] (spPTextX K CA) := by
 refine F.okX sc_program_text (fun vs H Q X h => ?_) (fun cdv A outer s H vs Q X hr h => ?_)
 · obtain ⟨v, rfl, _⟩ := h
   rfl
 · obtain ⟨v, rfl, hv, k⟩ := h
   refine ⟨_, (pss_cons (ps_expr (pe_cal c_check_program (hr.mono (by omega)) rfl (passes_call (takes_of rfl rfl rfl rfl) (fun _ _ _ _ h => h)) (pa_cons (pv 0) (pa_cons pe_str pa_nil))))
     pss_never), ?_⟩
   exact ⟨_, rfl, v, "program", rfl, .inr ⟨hv, k⟩⟩
def spHTextX (K : PySem.W.Frag) (CH : Addr) : Sp := fun vs H _ X => ∃ v i, vs = [v] ∧ JH K H v (.error i) ∧ ∀ H' e, Same H H' → XAt H' e i → X (.ref CH) (some e) H'
theorem sc_history_text : FnScope ["history", "token"] ["history"] (defScope s_history_text) := ⟨rfl, rfl, rfl, by decide +kernel, rfl, by decide +kernel, by decide +kernel⟩
theorem ok_htextX {f : Addr} {fd : FuncData} (F : Fun K "history_text" "history_text" s_history_text f fd) (c_check : Cal P w K mg base (L2.CX P w) 4 "check" ["history"] (spLen K CH)) : FnOk P w K mg base (L2.CX P w) 5 f fd ["history"] (spHTextX K CH) := by
 refine F.okX sc_history_text (fun vs H Q X h => ?_) (fun cdv A outer s H vs Q X hr h => ?_)
 · obtain ⟨v, i, rfl, _⟩ := h
   rfl
 · obtain ⟨v, i, rfl, hj, k⟩ := h
   refine ⟨_, (pss_cons (ps_expr (pe_cal c_check (hr.mono (by omega)) rfl (passes_call (takes_of rfl rfl rfl rfl) (fun _ _ _ _ h => h)) (pa_cons (pv 0) pa_nil)))
     pss_never), ?_⟩
   refine ⟨_, rfl, v, .error i, rfl, hj, fun ts e => ?_, fun i' e H' d s' hx => ?_⟩
   · cases e
   · obtain rfl := Except.error.inj e
     exact k H' d s' hx
def spReadHX (K : PySem.W.Frag) (CT CA : Addr) : Sp := fun vs H _ X => (∃ v, vs = [v] ∧ NoS K H v ∧ ∀ H' e, Same H H' → XArg H' e "text" → X (.ref CA) (some e) H') ∨
 ∃ (z : Str) (k : Nat) (l : Str), vs = [.str z] ∧ z.length + 2 ≤ sizeLine ∧ LOk (Txt.split z "\n") ∧ (Txt.split z "\n")[k]? = some l ∧ tokV l = none ∧ (∀ j l', j < k → (Txt.split z "\n")[j]? = some l' → tokV l' ≠ none) ∧ ∀ H' e, Same H H' → XLine H' e (k + 1) → X (.ref CT) (some e) H'
theorem sc_read_history : FnScope ["text", "history", "lines", "k", "token"] ["text"] (defScope s_read_history) := ⟨rfl, rfl, rfl, by decide +kernel, rfl, by decide +kernel, by decide +kernel⟩
theorem ok_readHX {f : Addr} {fd : FuncData} (F : Fun K "read_history" "read_history" s_read_history f fd) (T : TxtI P w K mg pU pC CT CA pZ) (c_check : Cal P w K mg base (L2.CX P w) 4 "check" ["history"] (spLen K CH)) (c_token_of : Cal P w K mg base CX0 2 "token_of" ["line"] (spTokenOf K)) : FnOk P w K mg base (L2.CX P w) 5 f fd ["text"] (spReadHX K CT CA) := by
 refine F.okX sc_read_history (fun vs H Q X h => ?_) (fun cdv A outer s H vs Q X hr h => ?_)
 · rcases h with ⟨v, rfl, _⟩ | ⟨z, k, l, rfl, _⟩ <;> rfl
 · refine ⟨_, (pss_cons (ps_if (pt_not (pt_val (pe_callB call_isi (by rfl) T.b_isinstance (by decide +kernel) (pa_cons (pv 0) (pa_cons (pe_bltn (v := .ty "str") (by rfl) T.b_str (by decide +kernel) rfl) pa_nil))))) (pss_one (ps_raise rfl (takes_of rfl rfl rfl rfl) (pmk_x T.mk_InvalidArgument hr rfl T.g_InvalidArgument T.k_InvalidArgument T.r_InvalidArgument (pa_cons pe_str pa_nil)))) pss_nil)
     (pss_cons (ps_set (i := 1) sc_read_history.nd rfl (.inl rfl) (pe_lst pa_nil))
     (pss_cons (ps_set (i := 2) sc_read_history.nd rfl (.inl rfl) (pe_split (pv 0) pe_str))
     (pss_cons (ps_for (passes_of rfl) rfl (pi_range1 (by rfl) T.b_range (pa_cons (pe_callB call_len_seq (by rfl) T.b_len (by decide +kernel) (pa_cons (pv 2) pa_nil)) pa_nil)) (pg_name (i := 3) sc_read_history.nd rfl (.inl rfl)) (pss_cons (ps_set (i := 4) sc_read_history.nd rfl (.inl rfl) (pe_cal c_token_of (hr.mono (by omega)) rfl pass0 (pa_cons (pe_ix ix_list (pv 2) (pv 3) (fun _ _ => rfl)) pa_nil)))
     (pss_cons (ps_if (pt_cmpR op_isN (pv 4) pe_non (nomark _)) (pss_one (ps_raise rfl (takes_of rfl rfl rfl rfl) (pmk_x T.mk_InvalidText hr rfl T.g_InvalidText T.k_InvalidText T.r_InvalidText (pa_cons (pe_op op_add (pv 3) pe_int) pa_nil)))) pss_nil)
     (pss_one (ps_expr (pe_bm PySem.F.plainAttrs_list PySem.F.slot_list_append PySem.F.type_list_append mt_append (pv 1) (pa_cons (pv 4) pa_nil)))))))
     (pss_cons (ps_expr (pe_cal c_check (hr.mono (by omega)) rfl (passes_call (takes_of rfl rfl rfl rfl) (fun _ _ _ _ h => h)) (pa_cons (pv 1) pa_nil)))
     (pss_one (ps_ret (pv 1)))))))), ?_⟩
   rcases h with ⟨v, rfl, ⟨d, hd, hs⟩ | ⟨p, o, rfl, hp⟩, k⟩ | ⟨z, kk, l, rfl, hz, ok, hk, hb, hg, k⟩
   · exact ⟨_, rfl, v, _, _, _, _, rfl, .ty _, ty_dp hd, kit_str d, _, rfl, ifT (by rw [hs]; rfl) ⟨rfl, fun e ne => k _ e (Same.new ne) upd_same⟩⟩
   · exact ⟨_, rfl, .ref p, _, _, _, _, rfl, .ty _, TyX.base (.dK hp), kit_ty (show kitB "dict" "str" = some false by decide +kernel), _, rfl, ifT rfl ⟨rfl, fun e ne => k _ e (Same.new ne) upd_same⟩⟩
   refine ⟨_, rfl, .str z, _, _, _, _, rfl, .ty _, ty_dp (.str z), kit_str (.str z), _, rfl, ifF rfl ?_⟩
   refine ⟨sz_lit (by decide), fun D nD => ⟨_, rfl, ⟨_, rfl⟩, _, _, rfl, rfl, rfl, hz, fun a na => ?_⟩⟩
   revert ok hk hg na
   generalize Txt.split z "\n" = ls
   intro ok hk hg na
   have s0 : Same H (upd H D (.lst [])) := Same.new nD
   have sa : Same (upd H D (.lst [])) (upd (upd H D (.lst [])) a (.lst (ls.map V.str))) := Same.new na
   have hDa := sa _ _ (show upd H D (.lst []) D = some (.lst []) from upd_same)
   have ha : upd (upd H D (.lst [])) a (.lst (ls.map V.str)) a = some (.lst (ls.map V.str)) := upd_same
   have s0 := s0.trans sa
   revert hDa s0 ha
   generalize upd (upd H D (.lst [])) a (.lst (ls.map V.str)) = H1
   intro hDa ha s0
   refine ⟨_, rfl, a, _, rfl, .inl (.inl (.inl ha)), (ls.length : Int), by rw [List.length_map], by have := ok.n; omega, by have := ok.n; omega, ?_⟩
   rw [Int.toNat_natCast]
   refine for_it (walk_range (lo := 0) (n := ls.length)) (fun i σ G => (∃ y3 y4 : Option V, σ = [some (.str z), some (.ref D), some (.ref a), y3, y4]) ∧ i ≤ kk ∧ (∃ us, G D = some (.lst us) ∧ us.length = i) ∧ Same H G ∧ G a = some (.lst (ls.map V.str))) ⟨⟨_, _, rfl⟩, Nat.zero_le _, ⟨[], hDa, rfl⟩, s0, ha⟩ (fun _ _ _ _ _ => trivial) ?_ ?_
   · rintro i x σ G1 G hi ⟨⟨y3, y4, rfl⟩, hik, ⟨us, hGD, hul⟩, sG, hGa⟩ ⟨rfl, rfl⟩
     show gName 3 (V.int (0 + (i : Int))) _ _ _
     rw [Int.zero_add]
     have hl : ls[i]? = some ls[i] := List.getElem?_eq_getElem hi
     revert hl
     generalize ls[i] = li
     intro hl
     have hlz := ok.z li (List.mem_of_getElem? hl)
     refine ⟨_, rfl, _, rfl, a, _, (i : Int), .str li, rfl, rfl, .inl (.inl hGa), atI_nat (by rw [List.getElem?_map, hl]; rfl), li, rfl, by omega, fun hn H2 s2 => ?_, fun xs hxs p H2 s2 hp => ?_⟩
     · have e : i = kk := by
         rcases Nat.lt_or_ge i kk with h | h
         · exact absurd hn (hg i li h hl)
         · omega
       subst e
       exact ⟨_, rfl, rfl, _, rfl, ifT rfl ⟨_, rfl, _, _, rfl, rfl, rfl, fun e ne => k _ e (sG.trans (s2.trans (Same.new ne))) upd_same⟩⟩
     · have hD2 := s2 _ _ hGD
       have npD : D ≠ a := fun e => by
         rw [e, hGa] at hGD
         injection hGD with e2
         injection e2 with e2
         rw [← e2, List.length_map] at hul
         omega
       have hlt : i < kk := by
         rcases Nat.lt_or_ge i kk with h | h
         · exact h
         · have e : i = kk := by omega
           rw [e, hk] at hl
           rw [← Option.some.inj hl, hb] at hxs
           cases hxs
       have := ok.n
       exact ⟨_, rfl, rfl, _, rfl, ifF rfl ⟨_, rfl, .inl ⟨rfl, _, .inl (.inl hD2)⟩, _, rfl, D, _, _, rfl, rfl, hD2, lt_sz (by omega), ⟨_, _, rfl⟩, hlt, ⟨_, upd_same, by rw [List.length_append, hul]; rfl⟩, same_updN (sG.trans s2) nD, by rw [L2.upd_ne npD.symm]; exact s2 _ _ hGa⟩⟩
   · rintro σ G ⟨_, hik, _⟩
     have := (List.getElem?_eq_some_iff.mp hk).1
     omega
end
end Op
set_option pp.maxSteps 900
namespace L2
open PySem PySem.Spec PyProof.Rows
theorem passes_len {X : Cx} {W : WX} {E : XK} (tk : Takes X W) (hW : ∀ cls d σ H, σ.length = X.N.length → E cls d H → W cls d σ H) : Passes (L2.CX X.prog X.w) X E :=
 fun _ σ _ _ e s' I c => tk e s' (XE.of_call I (fun cls d H' h => hW cls d σ H' I.len h) c)
end L2
namespace Op
open PySem L2 TL PyProof.Rows
inductive Rs
 | none
 | arg (p : Str)
 | hist (i : Int)
 | line (k : Nat)
 | prog (p : Str) (path : List Int)
def resD : Rs → PyData
 | .none => .tuple [.str "none", .none, .bool true]
 | .arg p => .tuple [.str "argument", .str p, .bool true]
 | .hist i => .tuple [.str "history", .int i, .bool true]
 | .line k => .tuple [.str "line", .int (k : Int), .bool true]
 | .prog p path => .tuple [.str p, .tuple (path.map .int), .bool true]
def readR (f : Nat) (ls : List Str) : Option Rs := match readL f ls with
 | .error .none => .none
 | .error (some k) => some (.line k)
 | .ok (ins, ds) => if wts ds ≤ 29000 then match progCheck false (.dict []) (.dict []) (.tuple (ins.map .str)) (.list ds) with
   | .error (part, path) => some (.prog part path)
   | .ok _ => some .none else .none
def CallOk (K : PySem.W.Frag) (H : Hp) (n : Int) (v : V) (r : Rs) : Prop :=
 (n = 0 ∧ NoP K H v ∧ r = .arg "program") ∨ (n = 1 ∧ NoS K H v ∧ r = .arg "text") ∨
 (n = 1 ∧ ∃ z f, v = .str z ∧ z.length + 2 ≤ sizeLine ∧ LOk (Txt.split z "\n") ∧ f ≤ 90000 ∧ readR f (Txt.split z "\n") = some r) ∨ (n = 2 ∧ NoS K H v ∧ r = .arg "text") ∨
 (n = 2 ∧ ∃ z k l, v = .str z ∧ z.length + 2 ≤ sizeLine ∧ LOk (Txt.split z "\n") ∧ (Txt.split z "\n")[k]? = some l ∧ tokV l = Option.none ∧ (∀ j l', j < k → (Txt.split z "\n")[j]? = some l' → tokV l' ≠ Option.none) ∧ r = .line (k + 1)) ∨
 (n = 3 ∧ ∃ i, JH K H v (.error i) ∧ r = .hist i)
structure TxtX (P : Program) (w : World) (K : PySem.W.Frag) (mg : Str → Option Value) (pU pC CT CA pZ CH CI CR CN CP : Addr) : Prop extends TxtI P w K mg pU pC CT CA pZ where
 g_Program : mg "Program" = some (.ref CP)
 pi : PgI K CP
 g_InvalidHistory : mg "InvalidHistory" = some (.ref CH)
 g_InvalidProgram : mg "InvalidProgram" = some (.ref CI)
 g_RunError : mg "RunError" = some (.ref CR)
 g_InputError : mg "InputError" = some (.ref CN)
 aA : XAsk K CA
 aH : XAsk K CH
 aT : XAsk K CT
 aI : XAsk K CI
 xA : XfC K CA
 xH : XfC K CH
 xT : XfC K CT
 xI : XfC K CI
 nA : PySem.W.findIn K (.ref CA) "part" = some none
 nH : PySem.W.findIn K (.ref CH) "at" = some none
 nT : PySem.W.findIn K (.ref CT) "line" = some none
 nI : PySem.W.findIn K (.ref CI) "part" = some none
 nJ : PySem.W.findIn K (.ref CI) "path" = some none
 kAR : PySem.W.kitOne K (.ref CA) (.ref CR) = some false
 kAT : PySem.W.kitOne K (.ref CA) (.ref CT) = some false
 kHN : PySem.W.kitOne K (.ref CH) (.ref CN) = some true
 kHT : PySem.W.kitOne K (.ref CH) (.ref CT) = some false
 kTN : PySem.W.kitOne K (.ref CT) (.ref CN) = some true
 kTR : PySem.W.kitOne K (.ref CT) (.ref CR) = some false
 kIN : PySem.W.kitOne K (.ref CI) (.ref CN) = some true
 eAA : PySem.W.exmOne K (.ref CA) (.ref CA) = some true
 eHA : PySem.W.exmOne K (.ref CH) (.ref CA) = some false
 eHH : PySem.W.exmOne K (.ref CH) (.ref CH) = some true
 eTA : PySem.W.exmOne K (.ref CT) (.ref CA) = some false
 eTH : PySem.W.exmOne K (.ref CT) (.ref CH) = some false
 eTT : PySem.W.exmOne K (.ref CT) (.ref CT) = some true
 eIA : PySem.W.exmOne K (.ref CI) (.ref CA) = some false
 eIH : PySem.W.exmOne K (.ref CI) (.ref CH) = some false
 eIT : PySem.W.exmOne K (.ref CI) (.ref CT) = some false
 eII : PySem.W.exmOne K (.ref CI) (.ref CI) = some true
theorem set3L {σ : L2.St} {v : V} (h : σ.length = 4) : (σ.set 3 (some v))[3]? = some (some v) := by
 rw [List.getElem?_set_self (by omega)]
theorem NoS.mono {K : PySem.W.Frag} {H H' : Hp} {v : V} (h : NoS K H v) (s : Same H H') : NoS K H' v := by
 rcases h with ⟨d, h, h2⟩ | ⟨p, o, h1, h2⟩
 · exact .inl ⟨d, h.mono s, h2⟩
 · exact .inr ⟨p, o, h1, s _ _ h2⟩
theorem dpa_ints {K : PySem.W.Frag} {H : Hp} : ∀ is : List Int, DpAll K H (is.map V.int) (is.map .int)
 | [] => .nil
 | a :: r => .cons (.int a) (dpa_ints r)
theorem set23 {σ : L2.St} {u v : V} (h : σ.length = 4) : (((σ.set 3 (some u)).set 2 (some v)).set 3 none)[2]? = some (some v) := by
 rw [List.getElem?_set_ne (by decide), List.getElem?_set_self (by rw [List.length_set]; omega)]
section
variable {P : Program} {w : World} {K : PySem.W.Frag} {mg : Str → Option Value} {base : Heap} {pU pC CT CA CH pZ CL CP CI CR CN : Addr}
def spCall (K : PySem.W.Frag) : Sp := fun vs H Q _ => ∃ (n : Int) (v : V) (r : Rs), vs = [.int n, v] ∧ CallOk K H n v r ∧ ∀ t H', Same H H' → Dp K H' t (resD r) → Q t H'
theorem sc__law_call : FnScope ["_law_number", "_law_value", "_law_told", "e"] ["_law_number", "_law_value"] (defScope s__law_call) := ⟨rfl, rfl, rfl, by decide +kernel, rfl, by decide +kernel, by decide +kernel⟩
theorem ok_lcall {f : Addr} {fd : FuncData} {kb : Nat} (hkb : 5 ≤ kb) (F : Fun K "_law_call" "_law_call" s__law_call f fd) (T : TxtX P w K mg pU pC CT CA pZ CH CI CR CN CP) (c_program_text : Cal P w K mg base (L2.CX P w) 2 "program_text" ["program"] (spPTextX K CA)) (c_read_program : Cal P w K mg base (L2.CX P w) kb "read_program" ["text"] (spReadP K CT CA CP CI)) (c_read_history : Cal P w K mg base (L2.CX P w) 5 "read_history" ["text"] (spReadHX K CT CA)) (c_history_text : Cal P w K mg base (L2.CX P w) 5 "history_text" ["history"] (spHTextX K CH)) :
   FnOk P w K mg base CX0 (kb + 1) f fd ["_law_number", "_law_value"] (spCall K) := by
 refine F.ok sc__law_call (fun vs H Q E h => ?_) (fun cdv A outer s H vs Q E' hr h => ?_)
 · obtain ⟨n, v, r, rfl, _⟩ := h
   rfl
 · obtain ⟨n, v, r, rfl, hc, k⟩ := h
   have isE : ∀ (a : Addr), True := fun _ => trivial
   refine ⟨_, (pss_cons (ps_set (i := 2) sc__law_call.nd rfl (.inl rfl) (pe_tup (pa_cons pe_str (pa_cons pe_non (pa_cons pe_bl pa_nil)))))
     (pss_cons (ps_try_manyA (i := 3) rfl rfl sc__law_call.nd rfl rfl L2.takes0
       (fun W pn xe tk own => pss_one (ps_if (pt_cmpR op_eq (pv 0) pe_int (nomark _))
         (pss_one (ps_expr (pe_cal c_program_text (hr.mono (by omega)) rfl (passes_len (E := fun cls d H => ∀ σ : L2.St, σ.length = 4 → W cls d σ H) tk (fun _ _ σ _ hl h => h σ hl)) (pa_cons (pv 1) pa_nil))))
         (pss_one (ps_if (pt_cmpR op_eq (pv 0) pe_int (nomark _))
           (pss_one (ps_expr (pe_cal c_read_program (hr.mono (by omega)) rfl (passes_len (E := fun cls d H => ∀ σ : L2.St, σ.length = 4 → W cls d σ H) tk (fun _ _ σ _ hl h => h σ hl)) (pa_cons (pv 1) pa_nil))))
           (pss_one (ps_if (pt_cmpR op_eq (pv 0) pe_int (nomark _))
             (pss_one (ps_expr (pe_cal c_read_history (hr.mono (by omega)) rfl (passes_len (E := fun cls d H => ∀ σ : L2.St, σ.length = 4 → W cls d σ H) tk (fun _ _ σ _ hl h => h σ hl)) (pa_cons (pv 1) pa_nil))))
             (pss_one (ps_expr (pe_cal c_history_text (hr.mono (by omega)) rfl (passes_len (E := fun cls d H => ∀ σ : L2.St, σ.length = 4 → W cls d σ H) tk (fun _ _ σ _ hl h => h σ hl)) (pa_cons (pv 1) pa_nil))))))))))
       (.cons ⟨rfl, by decide, .inl T.g_InvalidArgument⟩ (fun a oe cls d pn hz hf => pss_one (ps_set (i := 2) sc__law_call.nd rfl (.inl rfl) (pe_tup (pa_cons pe_str (pa_cons (pe_xf T.xA T.nA hz hf (pv 3)) (pa_cons (pe_and (pe_not (pe_callB (call_isEd T.aA hz hf) (by rfl) T.b_isinstance (by decide +kernel) (pa_cons (pv 3) (pa_cons (pe_gref rfl T.g_RunError) pa_nil)))) (pe_one (pe_not (pe_callB (call_isEd T.aA hz hf) (by rfl) T.b_isinstance (by decide +kernel) (pa_cons (pv 3) (pa_cons (pe_gref rfl T.g_InvalidText) pa_nil)))))) pa_nil))))))
       (.cons ⟨rfl, by decide, .inl T.g_InvalidHistory⟩ (fun a oe cls d pn hz hf => pss_one (ps_set (i := 2) sc__law_call.nd rfl (.inl rfl) (pe_tup (pa_cons pe_str (pa_cons (pe_xf T.xH T.nH hz hf (pv 3)) (pa_cons (pe_and (pe_callB (call_isEd T.aH hz hf) (by rfl) T.b_isinstance (by decide +kernel) (pa_cons (pv 3) (pa_cons (pe_gref rfl T.g_InputError) pa_nil))) (pe_one (pe_not (pe_callB (call_isEd T.aH hz hf) (by rfl) T.b_isinstance (by decide +kernel) (pa_cons (pv 3) (pa_cons (pe_gref rfl T.g_InvalidText) pa_nil)))))) pa_nil))))))
       (.cons ⟨rfl, by decide, .inl T.g_InvalidText⟩ (fun a oe cls d pn hz hf => pss_one (ps_set (i := 2) sc__law_call.nd rfl (.inl rfl) (pe_tup (pa_cons pe_str (pa_cons (pe_xf T.xT T.nT hz hf (pv 3)) (pa_cons (pe_and (pe_callB (call_isEd T.aT hz hf) (by rfl) T.b_isinstance (by decide +kernel) (pa_cons (pv 3) (pa_cons (pe_gref rfl T.g_InputError) pa_nil))) (pe_one (pe_not (pe_callB (call_isEd T.aT hz hf) (by rfl) T.b_isinstance (by decide +kernel) (pa_cons (pv 3) (pa_cons (pe_gref rfl T.g_RunError) pa_nil)))))) pa_nil))))))
       (.cons ⟨rfl, by decide, .inl T.g_InvalidProgram⟩ (fun a oe cls d pn hz hf => pss_one (ps_set (i := 2) sc__law_call.nd rfl (.inl rfl) (pe_tup (pa_cons (pe_xf T.xI T.nI hz hf (pv 3)) (pa_cons (pe_xf T.xI T.nJ hz hf (pv 3)) (pa_cons (pe_callB (call_isEd T.aI hz hf) (by rfl) T.b_isinstance (by decide +kernel) (pa_cons (pv 3) (pa_cons (pe_gref rfl T.g_InputError) pa_nil))) pa_nil)))))) .nil)))))
     (pss_one (ps_ret (pv 2))))), ?_⟩
   refine ⟨sz_lit (by show 3 ≤ 100000; decide), fun t0 nt0 => ?_⟩
   have s0 : Same H (upd H t0 (.tup [.str "none", .non, .bl true])) := Same.new nt0
   have k0 : ∀ q H2, Same H H2 → H2 q = none → ∀ xs ds, resD r = .tuple ds → DpAll K (upd H2 q (.tup xs)) xs ds → Q (.ref q) (upd H2 q (.tup xs)) := fun q H2 s2 nq xs ds e hd => by
     refine k _ _ (s2.trans (Same.new nq)) ?_
     rw [e]
     exact .tup (.inl (.inl upd_same)) hd
   clear isE
   rcases hc with ⟨rfl, hv, rfl⟩ | ⟨rfl, hv, rfl⟩ | ⟨rfl, z, f, rfl, hz, ok, hf, hr⟩ | ⟨rfl, hv, rfl⟩ | ⟨rfl, z, kk, l, rfl, hz, ok, hk, hb, hg, rfl⟩ | ⟨rfl, i, hj, rfl⟩
   · exact ⟨_, rfl, rfl, _, rfl, ifT rfl ⟨_, rfl, v, rfl, hv.mono s0, fun H2 e s2 hx σ hl => ⟨true, T.eAA, fun _ a hfree => ⟨.ref a, set3L hl, rfl, rfl, e, _, _, rfl, hx, rfl, .ref a, set3L hl, _, _, _, e, _, rfl, .own _, rfl, rfl, hx, T.kAR, _, rfl, _, rfl, ifT rfl ⟨.ref a, set3L hl, _, _, _, e, _, rfl, .own _, rfl, rfl, hx, T.kAT, _, rfl, sz_lit (by show 3 ≤ 100000; decide), fun q nq => ⟨_, set23 hl, k0 q _ (s0.trans s2) nq _ _ rfl (.cons (.str _) (.cons (.str _) (.cons (.bl _) .nil)))⟩⟩⟩, nofun⟩⟩⟩
   · exact ⟨_, rfl, rfl, _, rfl, ifF rfl ⟨_, rfl, rfl, _, rfl, ifT rfl ⟨_, rfl, .inl ⟨v, rfl, hv.mono s0, fun H2 e s2 hx σ hl => ⟨true, T.eAA, fun _ a hfree => ⟨.ref a, set3L hl, rfl, rfl, e, _, _, rfl, hx, rfl, .ref a, set3L hl, _, _, _, e, _, rfl, .own _, rfl, rfl, hx, T.kAR, _, rfl, _, rfl, ifT rfl ⟨.ref a, set3L hl, _, _, _, e, _, rfl, .own _, rfl, rfl, hx, T.kAT, _, rfl, sz_lit (by show 3 ≤ 100000; decide), fun q nq => ⟨_, set23 hl, k0 q _ (s0.trans s2) nq _ _ rfl (.cons (.str _) (.cons (.str _) (.cons (.bl _) .nil)))⟩⟩⟩, nofun⟩⟩⟩⟩⟩
   · refine ⟨_, rfl, rfl, _, rfl, ifF rfl ⟨_, rfl, rfl, _, rfl, ifT rfl ⟨_, rfl, .inr ⟨z, f, rfl, hz, ok, hf, ?_⟩⟩⟩⟩
     unfold readR at hr
     cases hm : readL f (Txt.split z "\n") with
     | error x =>
       rw [hm] at hr
       cases x with
       | none => cases hr
       | some kk =>
         obtain rfl := Option.some.inj hr
         exact fun H2 e s2 hx σ hl => ⟨false, T.eTA, nofun, fun _ => ⟨false, T.eTH, nofun, fun _ => ⟨true, T.eTT, fun _ a hfree => ⟨.ref a, set3L hl, rfl, rfl, e, _, _, rfl, hx, rfl, .ref a, set3L hl, _, _, _, e, _, rfl, .own _, rfl, rfl, hx, T.kTN, _, rfl, ifT rfl ⟨.ref a, set3L hl, _, _, _, e, _, rfl, .own _, rfl, rfl, hx, T.kTR, _, rfl, sz_lit (by show 3 ≤ 100000; decide), fun q nq => ⟨_, set23 hl, k0 q _ (s0.trans s2) nq _ _ rfl (.cons (.str _) (.cons (.int _) (.cons (.bl _) .nil)))⟩⟩⟩, nofun⟩⟩⟩
     | ok x =>
       obtain ⟨ins, ds⟩ := x
       rw [hm] at hr
       dsimp only at hr
       by_cases hw : wts ds ≤ 29000
       · rw [if_pos hw] at hr
         refine ⟨hw, fun part path he => ?_, fun hne p dx fs H' s' np hp => ?_⟩
         · have he : progCheck false (.dict []) (.dict []) (.tuple (ins.map .str)) (.list ds) = .error (part, path) := he
           rw [he] at hr
           obtain rfl := Option.some.inj hr
           rintro H2 e s2 ⟨t, hx, ht⟩ σ hl
           exact ⟨false, T.eIA, nofun, fun _ => ⟨false, T.eIH, nofun, fun _ => ⟨false, T.eIT, nofun, fun _ => ⟨true, T.eII, fun _ a hfree => ⟨.ref a, set3L hl, rfl, rfl, e, _, _, rfl, hx, rfl, .ref a, set3L hl, rfl, rfl, e, _, _, rfl, hx, rfl, .ref a, set3L hl, _, _, _, e, _, rfl, .own _, rfl, rfl, hx, T.kIN, sz_lit (by show 3 ≤ 100000; decide), fun q nq => ⟨_, set23 hl, k0 q _ (s0.trans s2) nq _ _ rfl (.cons (.str _) (.cons (.tup (ht.mono (Same.new nq)) (dpa_ints path)) (.cons (.bl _) .nil)))⟩⟩, nofun⟩⟩⟩⟩
         · cases hpc : progCheck false (.dict []) (.dict []) (.tuple (ins.map .str)) (.list ds) with
           | error x => exact absurd hpc (hne x.1 x.2)
           | ok c =>
             rw [hpc] at hr
             obtain rfl := Option.some.inj hr
             exact ⟨_, rfl, k _ _ (s0.trans s') (.tup (.inl (.inl (s' _ _ upd_same))) (.cons (.str _) (.cons .non (.cons (.bl _) .nil))))⟩
       · rw [if_neg hw] at hr
         cases hr
   · exact ⟨_, rfl, rfl, _, rfl, ifF rfl ⟨_, rfl, rfl, _, rfl, ifF rfl ⟨_, rfl, rfl, _, rfl, ifT rfl ⟨_, rfl, .inl ⟨v, rfl, hv.mono s0, fun H2 e s2 hx σ hl => ⟨true, T.eAA, fun _ a hfree => ⟨.ref a, set3L hl, rfl, rfl, e, _, _, rfl, hx, rfl, .ref a, set3L hl, _, _, _, e, _, rfl, .own _, rfl, rfl, hx, T.kAR, _, rfl, _, rfl, ifT rfl ⟨.ref a, set3L hl, _, _, _, e, _, rfl, .own _, rfl, rfl, hx, T.kAT, _, rfl, sz_lit (by show 3 ≤ 100000; decide), fun q nq => ⟨_, set23 hl, k0 q _ (s0.trans s2) nq _ _ rfl (.cons (.str _) (.cons (.str _) (.cons (.bl _) .nil)))⟩⟩⟩, nofun⟩⟩⟩⟩⟩⟩
   · exact ⟨_, rfl, rfl, _, rfl, ifF rfl ⟨_, rfl, rfl, _, rfl, ifF rfl ⟨_, rfl, rfl, _, rfl, ifT rfl ⟨_, rfl, .inr ⟨z, kk, l, rfl, hz, ok, hk, hb, hg, fun H2 e s2 hx σ hl => ⟨false, T.eTA, nofun, fun _ => ⟨false, T.eTH, nofun, fun _ => ⟨true, T.eTT, fun _ a hfree => ⟨.ref a, set3L hl, rfl, rfl, e, _, _, rfl, hx, rfl, .ref a, set3L hl, _, _, _, e, _, rfl, .own _, rfl, rfl, hx, T.kTN, _, rfl, ifT rfl ⟨.ref a, set3L hl, _, _, _, e, _, rfl, .own _, rfl, rfl, hx, T.kTR, _, rfl, sz_lit (by show 3 ≤ 100000; decide), fun q nq => ⟨_, set23 hl, k0 q _ (s0.trans s2) nq _ _ rfl (.cons (.str _) (.cons (.int _) (.cons (.bl _) .nil)))⟩⟩⟩, nofun⟩⟩⟩⟩⟩⟩⟩⟩
   · exact ⟨_, rfl, rfl, _, rfl, ifF rfl ⟨_, rfl, rfl, _, rfl, ifF rfl ⟨_, rfl, rfl, _, rfl, ifF rfl ⟨_, rfl, v, i, rfl, hj.mono s0, fun H2 e s2 hx σ hl => ⟨false, T.eHA, nofun, fun _ => ⟨true, T.eHH, fun _ a hfree => ⟨.ref a, set3L hl, rfl, rfl, e, _, _, rfl, hx, rfl, .ref a, set3L hl, _, _, _, e, _, rfl, .own _, rfl, rfl, hx, T.kHN, _, rfl, ifT rfl ⟨.ref a, set3L hl, _, _, _, e, _, rfl, .own _, rfl, rfl, hx, T.kHT, _, rfl, sz_lit (by show 3 ≤ 100000; decide), fun q nq => ⟨_, set23 hl, k0 q _ (s0.trans s2) nq _ _ rfl (.cons (.str _) (.cons (.int _) (.cons (.bl _) .nil)))⟩⟩⟩, nofun⟩⟩⟩⟩⟩⟩
end
end Op
set_option pp.maxSteps 700
namespace Op
open PySem L2 TL PyProof.Rows
theorem op_mulB {X : Cx} : OpR X (binaryOp .Mult) (fun x y H Q => ∃ (z : Str) (n : Int), x = .str z ∧ y = .int n ∧ 0 ≤ n ∧ n ≤ 100000 ∧ z.length ≤ 100 ∧ Q (.str (Txt.mul z n)) H) := by
 intro pins s σ H x y v u Q I rx ry h
 obtain ⟨z, n, rfl, rfl, h0, h1, h2, q⟩ := h
 obtain ⟨t, rfl⟩ := rx
 obtain ⟨t', rfl⟩ := ry
 refine PySem.SB.mul ?_ fun t'' k => ⟨.str (Txt.mul z n), H, I.tok _, ⟨_, rfl⟩, q⟩
 refine ⟨?_, fun _ _ => ?_, fun _ _ => ?_⟩
 · rw [decide_eq_false (by omega), decide_eq_false (by omega)]
   rfl
 · have : (1000 : Int) ≤ (2 ^ 63 - 1) / n := (Int.le_ediv_iff_mul_le (by omega)).mpr (by omega)
   omega
 · unfold Builtin.Str.tooLong
   have h3 : z.length * n.toNat ≤ 100 * 100000 := Nat.mul_le_mul h2 (by omega)
   exact decide_eq_false (Nat.not_lt.mpr (by rw [sizeLine_eq]; omega))
theorem tl_mul2 (n : Nat) : tl (Txt.mul "  " (n : Int)) = List.replicate (2 * n) 32 := by
 have key : ∀ (m : Nat) (acc : Array Nat), ((List.replicate m (#[32, 32] : Array Nat)).foldl (· ++ ·) acc).toList = acc.toList ++ List.replicate (2 * m) 32 := by
   intro m
   induction m with
   | zero => intro acc; simp
   | succ m ih =>
     intro acc
     rw [List.replicate_succ, List.foldl_cons, ih, show 2 * (m + 1) = 2 + 2 * m by omega, ← List.replicate_append_replicate, Array.toList_append, List.append_assoc]
     rfl
 unfold Txt.mul
 by_cases h0 : (n : Int) < 1
 · rw [if_pos h0, show n = 0 by omega]
   rfl
 rw [if_neg h0]
 split
 · rename_i h1
   have : n = 1 := by
     rcases Bool.or_eq_true_iff.mp h1 with h | h
     · have := eq_of_beq h; omega
     · exact absurd h (by decide)
   rw [this]
   rfl
 · have := key n #[]
   rw [Int.toNat_natCast]
   exact this
def word3 (k : Nat) : Str := if k = 0 then "loop" else if k = 1 then "part" else "past g"
def words3 (k : Nat) : List Str := if k = 0 then ["loop"] else if k = 1 then ["part"] else ["past", "g"]
def nestL : Nat → List Nat → List Str
 | _, [] => []
 | lv, k :: r => (Txt.mul "  " (lv : Int) ++ word3 k) :: nestL (lv + 1) r
def nestD : List Nat → List PyData
 | [] => []
 | k :: r => [.tuple ((words3 k).map .str ++ [.list (nestD r)])]
theorem nestL_len : ∀ (lv : Nat) (ks : List Nat), (nestL lv ks).length = ks.length
 | _, [] => rfl
 | lv, k :: r => by show (nestL (lv + 1) r).length + 1 = r.length + 1; rw [nestL_len]
theorem word3_hd (k : Nat) : ∃ c r, tl (word3 k) = c :: r ∧ c ≠ 32 := by
 unfold word3
 split
 · exact ⟨108, [111, 111, 112], rfl, by decide⟩
 · split
   · exact ⟨112, [97, 114, 116], rfl, by decide⟩
   · exact ⟨112, [97, 115, 116, 32, 103], rfl, by decide⟩
theorem lead_pad (lv k : Nat) : lead (Txt.mul "  " (lv : Int) ++ word3 k) = 2 * lv := by
 obtain ⟨c, r, e, h⟩ := word3_hd k
 unfold lead
 rw [tl_append, tl_mul2, e]
 generalize 2 * lv = n
 induction n with
 | zero => simp [h]
 | succ n ih => rw [List.replicate_succ, List.cons_append, List.takeWhile_cons_of_pos (by rfl), List.length_cons, ih]
theorem cut_pad (lv k : Nat) : cutS (Txt.mul "  " (lv : Int) ++ word3 k) (some ((2 * lv : Nat) : Int)) none = word3 k := by
 have hl : (Txt.mul "  " (lv : Int) ++ word3 k).length = 2 * lv + (word3 k).length := by
   rw [PySem.Str.length_append, len_tl, tl_mul2, List.length_replicate]
 unfold cutS
 rw [HT.sIx_nat, HT.sIx_none, hl, show min (2 * lv) (2 * lv + (word3 k).length) = 2 * lv by omega]
 have e : (Txt.mul "  " (lv : Int) ++ word3 k).cps.toList = List.replicate (2 * lv) 32 ++ tl (word3 k) := by
   rw [← tl_mul2, ← tl_append]
 rw [e, List.drop_append_of_le_length (by rw [List.length_replicate]; exact Nat.le_refl _), List.drop_replicate, Nat.sub_self, List.replicate_zero, List.nil_append, List.take_of_length_le (by rw [← len_tl]; omega)]
theorem split_word (k : Nat) : Txt.split (word3 k) " " = words3 k ∧ ("" : Str) ∉ words3 k := by
 by_cases h0 : k = 0
 · subst h0
   exact ⟨by decide +kernel, by decide +kernel⟩
 by_cases h1 : k = 1
 · subst h1
   exact ⟨by decide +kernel, by decide +kernel⟩
 have e1 : word3 k = "past g" := by unfold word3; rw [if_neg h0, if_neg h1]
 have e2 : words3 k = (["past", "g"] : List Str) := by unfold words3; rw [if_neg h0, if_neg h1]
 rw [e1, e2]
 exact ⟨by decide +kernel, by decide +kernel⟩
theorem lineP_pad (lv k : Nat) : lineP (Txt.mul "  " (lv : Int) ++ word3 k) = if 12 < lv then none else some (lv, words3 k) := by
 unfold lineP
 rw [lead_pad, cut_pad, (split_word k).1, Nat.mul_div_cancel_left _ (by decide), show 2 * lv % 2 = 0 by omega]
 by_cases h : 12 < lv
 · rw [if_pos (.inl h), if_pos h]
 · rw [if_neg h, if_neg (by rintro (g | g | g); exact h g; cases g; exact (split_word k).2 g)]
theorem peek_at {ls : List Str} {d : Nat} {z : Str} {p : Nat × List Str} (h : ls[d]? = some z) (hp : lineP z = some p) : peekL ls d = .ok ((p.1 : Int), p.2) := by
 unfold peekL
 rw [h]
 dsimp only
 rw [hp]
theorem peek_bad {ls : List Str} {d : Nat} {z : Str} (h : ls[d]? = some z) (hp : lineP z = none) : peekL ls d = .error (some (d + 1)) := by
 unfold peekL
 rw [h]
 dsimp only
 rw [hp]
theorem peek_end {ls : List Str} {d : Nat} (h : ls[d]? = none) : peekL ls d = .ok (-1, [""]) := by
 unfold peekL
 rw [h]
theorem words3_row (k : Nat) : rowF (words3 k) = true ∧ (words3 k).headD "" ≠ "first" ∧ (words3 k).headD "" ≠ "note" ∧ ¬ ((words3 k).headD "" = "if" ∨ (words3 k).headD "" = "gate") ∧ ((words3 k).headD "" = "loop" ∨ (words3 k).headD "" = "part" ∨ (words3 k).headD "" = "past") := by
 by_cases h0 : k = 0
 · subst h0
   decide +kernel
 by_cases h1 : k = 1
 · subst h1
   decide +kernel
 have e2 : words3 k = (["past", "g"] : List Str) := by unfold words3; rw [if_neg h0, if_neg h1]
 rw [e2]
 decide +kernel
theorem nest_row {ls : List Str} {f lv d k : Nat} : rowLn ls (f + 1) lv (words3 k) d = lbnd (blockL ls f (lv + 1) d) fun r => .ok (.tuple ((words3 k).map .str ++ [.list r.1]), r.2) := by
 obtain ⟨_, h1, h2, h3, h4⟩ := words3_row k
 rw [rowLn, if_neg h1, if_neg h2, if_neg h3, if_pos h4]
theorem block_end {ls : List Str} {f lv d : Nat} (h : ls[d]? = none) : blockL ls (f + 1) lv d = .ok ([], d) := by
 rw [blockL, peek_end h]
 dsimp only [lbnd]
 rw [if_pos (show (-1 : Int) < (lv : Int) by omega)]
theorem block_row {ls : List Str} {f lv d k : Nat} (h : ls[d]? = some (Txt.mul "  " (lv : Int) ++ word3 k)) (hl : lv ≤ 12) : blockL ls (f + 1) lv d = lbnd (rowLn ls f lv (words3 k) (d + 1)) fun r => lbnd (blockL ls f lv r.2) fun rs => .ok (r.1 :: rs.1, rs.2) := by
 rw [blockL, peek_at (p := (lv, words3 k)) h (by rw [lineP_pad, if_neg (by omega)])]
 dsimp only [lbnd]
 rw [if_neg (show ¬ (lv : Int) < (lv : Int) by omega), if_neg (show ¬ ((lv : Int) > (lv : Int) ∨ rowF (words3 k) = false) from fun g => by
   rcases g with g | g
   · omega
   · rw [(words3_row k).1] at g; cases g)]
theorem nest_block : ∀ (ks : List Nat) (lv d f : Nat) (ls : List Str), (∀ i, i ≤ ks.length → ls[d + i]? = (nestL lv ks)[i]?) → lv + ks.length ≤ 13 → 2 * ks.length + 1 ≤ f → blockL ls f lv d = .ok (nestD ks, d + ks.length)
 | [], lv, d, f, ls, h, _, hf => by
   obtain ⟨f, rfl⟩ : ∃ g, f = g + 1 := ⟨f - 1, by simp at hf; omega⟩
   exact block_end (h 0 (Nat.le_refl _))
 | k :: r, lv, d, f, ls, h, hl, hf => by
   simp only [List.length_cons] at hl hf h ⊢
   obtain ⟨f, rfl⟩ : ∃ g, f = g + 2 := ⟨f - 2, by omega⟩
   have h0 : ls[d]? = some (Txt.mul "  " (lv : Int) ++ word3 k) := h 0 (Nat.zero_le _)
   have ih := nest_block r (lv + 1) (d + 1) f ls (fun i hi => by
     rw [show d + 1 + i = d + (i + 1) by omega, h (i + 1) (by omega)]
     rfl) (by omega) (by omega)
   have hend : ls[d + 1 + r.length]? = none := by
     rw [show d + 1 + r.length = d + (r.length + 1) by omega, h (r.length + 1) (Nat.le_refl _)]
     exact List.getElem?_eq_none (by rw [nestL_len]; exact Nat.le_refl _)
   rw [block_row h0 (by omega), nest_row, ih]
   show lbnd (blockL ls (f + 1) lv (d + 1 + r.length)) _ = _
   rw [block_end hend]
   show Except.ok _ = _
   rw [show d + (r.length + 1) = d + 1 + r.length by omega]
   rfl
theorem nest_bad : ∀ (ks : List Nat) (lv d f : Nat) (ls : List Str), (∀ i, i < ks.length → ls[d + i]? = (nestL lv ks)[i]?) → lv ≤ 13 → 13 < lv + ks.length → 2 * (13 - lv) + 1 ≤ f → blockL ls f lv d = .error (some (d + (13 - lv) + 1))
 | [], lv, d, f, ls, h, h1, h2, hf => by simp at h2; omega
 | k :: r, lv, d, f, ls, h, h1, h2, hf => by
   simp only [List.length_cons] at h2 h
   have h0 : ls[d]? = some (Txt.mul "  " (lv : Int) ++ word3 k) := h 0 (by omega)
   rcases Nat.lt_or_ge lv 13 with hl | hl
   · obtain ⟨f, rfl⟩ : ∃ g, f = g + 2 := ⟨f - 2, by omega⟩
     have ih := nest_bad r (lv + 1) (d + 1) f ls (fun i hi => by
       rw [show d + 1 + i = d + (i + 1) by omega, h (i + 1) (by omega)]
       rfl) (by omega) (by omega) (by omega)
     rw [block_row h0 (by omega), nest_row, ih]
     show Except.error _ = _
     rw [show d + 1 + (13 - (lv + 1)) + 1 = d + (13 - lv) + 1 by omega]
   · obtain ⟨f, rfl⟩ : ∃ g, f = g + 1 := ⟨f - 1, by omega⟩
     rw [blockL, peek_bad h0 (by rw [lineP_pad, if_pos (by omega)])]
     show Except.error _ = _
     rw [show 13 - lv = 0 by omega]
end Op
set_option pp.maxSteps 700
namespace Op
open PySem L2 TL PyProof.Rows
def okB {α β : Type} : Except α β → Bool
 | .ok _ => true
 | .error _ => false
theorem okB_of {α β : Type} {m : Except α β} (h : okB m = true) : ∃ c, m = .ok c := by
 cases m with
 | ok c => exact ⟨c, rfl⟩
 | error e => cases h
def goD : PyData := .tuple [.str "go"]
def chkN (ks : List Nat) : Except (Str × List Int) Chk := progCheck false (.dict []) (.dict []) goD (.list (nestD ks))
theorem lt3 {k : Nat} (h : k < 3) : k = 0 ∨ k = 1 ∨ k = 2 := by omega
theorem nest_ok : ∀ ks : List Nat, (∀ k ∈ ks, k < 3) → ks.length ≤ 4 → ∃ c, chkN ks = .ok c
 | [], _, _ => okB_of (by kernel_rfl)
 | [a], h, _ => by
   rcases lt3 (h a (by simp)) with rfl | rfl | rfl <;> exact okB_of (by kernel_rfl)
 | [a, b], h, _ => by
   rcases lt3 (h a (by simp)) with rfl | rfl | rfl <;> rcases lt3 (h b (by simp)) with rfl | rfl | rfl <;> exact okB_of (by kernel_rfl)
 | [a, b, c], h, _ => by
   rcases lt3 (h a (by simp)) with rfl | rfl | rfl <;> rcases lt3 (h b (by simp)) with rfl | rfl | rfl <;> rcases lt3 (h c (by simp)) with rfl | rfl | rfl <;> exact okB_of (by kernel_rfl)
 | [a, b, c, d], h, _ => by
   rcases lt3 (h a (by simp)) with rfl | rfl | rfl <;> rcases lt3 (h b (by simp)) with rfl | rfl | rfl <;> rcases lt3 (h c (by simp)) with rfl | rfl | rfl <;> rcases lt3 (h d (by simp)) with rfl | rfl | rfl <;> exact okB_of (by kernel_rfl)
 | _ :: _ :: _ :: _ :: _ :: _, _, h => absurd h (by simp)
theorem nest_err {a b c d e : Nat} (ha : a < 3) (hb : b < 3) (hc : c < 3) (hd : d < 3) (he : e < 3) (r : List Nat) : chkN (a :: b :: c :: d :: e :: r) = .error ("rows", [0, 0, 0, 0, 0, 0, 0, 0, 0]) := by
 rcases lt3 ha with rfl | rfl | rfl <;> rcases lt3 hb with rfl | rfl | rfl <;> rcases lt3 hc with rfl | rfl | rfl <;> rcases lt3 hd with rfl | rfl | rfl <;> rcases lt3 he with rfl | rfl | rfl <;> kernel_rfl
theorem wt_strL (x : Str) : wt (.str x) = 1 + x.length := by rw [wt]
theorem wts_nest : ∀ ks : List Nat, wts (nestD ks) ≤ 100 * ks.length
 | [] => by show wts [] ≤ _; rw [wts_nil]; exact Nat.zero_le _
 | k :: r => by
   have ih := wts_nest r
   have key : wts ((words3 k).map .str ++ [.list (nestD r)]) ≤ 40 + wts (nestD r) := by
     have h1 : words3 k = (["loop"] : List Str) ∨ words3 k = (["part"] : List Str) ∨ words3 k = (["past", "g"] : List Str) := by
       unfold words3
       by_cases h0 : k = 0
       · rw [if_pos h0]; exact .inl rfl
       · rw [if_neg h0]
         by_cases h1 : k = 1
         · rw [if_pos h1]; exact .inr (.inl rfl)
         · rw [if_neg h1]; exact .inr (.inr rfl)
     rcases h1 with e | e | e <;> rw [e]
     · show wts [.str "loop", .list (nestD r)] ≤ _
       rw [wts_cons, wts_cons, wts_nil, wt_strL, wt_list, show ("loop" : Str).length = 4 from rfl]
       omega
     · show wts [.str "part", .list (nestD r)] ≤ _
       rw [wts_cons, wts_cons, wts_nil, wt_strL, wt_list, show ("part" : Str).length = 4 from rfl]
       omega
     · show wts [.str "past", .str "g", .list (nestD r)] ≤ _
       rw [wts_cons, wts_cons, wts_cons, wts_nil, wt_strL, wt_strL, wt_list, show ("past" : Str).length = 4 from rfl, show ("g" : Str).length = 1 from rfl]
       omega
   show wts [.tuple ((words3 k).map .str ++ [.list (nestD r)])] ≤ _
   rw [wts_cons, wts_nil, wt_tuple, List.length_cons]
   omega
def nestT (ks : List Nat) : List Str := "inputs go" :: "rows" :: nestL 1 ks
theorem nest_read {ks : List Nat} {f : Nat} (hf : 2 * ks.length + 30 ≤ f) : readL f (nestT ks) = if ks.length ≤ 12 then .ok (["go"], nestD ks) else .error (some 15) := by
 have h0 : (nestT ks)[0]? = some ("inputs go" : Str) := rfl
 have h1 : (nestT ks)[1]? = some ("rows" : Str) := rfl
 have p0 : peekL (nestT ks) 0 = .ok (0, ["inputs", "go"]) := peek_at (p := (0, ["inputs", "go"])) h0 (by decide +kernel)
 have p1 : peekL (nestT ks) 1 = .ok (0, ["rows"]) := peek_at (p := (0, ["rows"])) h1 (by decide +kernel)
 have a1 : head0 (nestT ks) "ask" 0 = .ok () := by
   unfold head0
   rw [p0]
   rfl
 have a2 : head0 (nestT ks) "signal" 0 = .ok () := by
   unfold head0
   rw [p0]
   rfl
 have a3 : inpL (nestT ks) 0 = .ok (["go"], 1) := by
   unfold inpL
   rw [p0]
   dsimp only [lbnd]
   rw [if_neg (by decide +kernel)]
   rfl
 have a4 : expL (nestT ks) 0 "rows" 1 = .ok 2 := by
   unfold expL
   rw [p1]
   rfl
 have hs : ∀ i, (nestT ks)[2 + i]? = (nestL 1 ks)[i]? := fun i => by
   rw [show 2 + i = i + 1 + 1 by omega]
   rfl
 unfold readL
 rw [a1]
 dsimp only [lbnd]
 rw [a2]
 dsimp only
 rw [a3]
 dsimp only
 rw [a4]
 dsimp only
 by_cases h : ks.length ≤ 12
 · rw [if_pos h, nest_block ks 1 2 f (nestT ks) (fun i _ => hs i) (by omega) (by omega)]
   dsimp only
   have hl : (nestT ks).length = 2 + ks.length := by
     show (nestL 1 ks).length + 1 + 1 = _
     rw [nestL_len]
     omega
   rw [hl, if_neg (fun h => h rfl)]
 · rw [if_neg h, nest_bad ks 1 2 f (nestT ks) (fun i _ => hs i) (by decide) (by omega) (by omega)]
def nestR (ks : List Nat) : Rs := if 12 < ks.length then .line 15 else if 4 < ks.length then .prog "rows" [0, 0, 0, 0, 0, 0, 0, 0, 0] else .none
theorem nest_readR {ks : List Nat} {f : Nat} (h3 : ∀ k ∈ ks, k < 3) (hf : 2 * ks.length + 30 ≤ f) : readR f (nestT ks) = some (nestR ks) := by
 unfold readR nestR
 rw [nest_read hf]
 by_cases h : ks.length ≤ 12
 · rw [if_pos h, if_neg (by omega)]
   dsimp only
   have hw := wts_nest ks
   rw [if_pos (by omega)]
   show (match chkN ks with | .error (part, path) => some (Rs.prog part path) | .ok _ => some Rs.none) = _
   by_cases h4 : 4 < ks.length
   · rw [if_pos h4]
     match ks, h3, h4 with
     | a :: b :: c :: d :: e :: r, h3, _ => rw [nest_err (h3 a (by simp)) (h3 b (by simp)) (h3 c (by simp)) (h3 d (by simp)) (h3 e (by simp)) r]
   · rw [if_neg h4]
     obtain ⟨c, hc⟩ := nest_ok ks h3 (by omega)
     rw [hc]
 · rw [if_neg h, if_pos (by omega)]
end Op
namespace Op
open PySem L2 PyProof.Rows
section
variable {H : Hp} {p l : Addr} {a r sd m : Int}
end
theorem fmod_lt {a m : Int} (h : 0 < m) : 0 ≤ a.fmod m ∧ a.fmod m < m := ⟨Int.fmod_nonneg_of_pos _ h, Int.fmod_lt_of_pos _ h⟩
section
variable {K : PySem.W.Frag} {H H' : Hp} {p c : Addr}
end
theorem lt64b {a : Int} : -(2 ^ 64) < a.fmod 2147483647 ∧ a.fmod 2147483647 < 2 ^ 64 := by
 have := fmod_lt (a := a) (m := 2147483647) (by decide)
 omega
section
variable {P : Program} {w : World} {K : PySem.W.Frag} {mg : Str → Option Value} {base : Heap}
end
end Op
namespace Op
open PySem L2 PyProof.Rows
theorem op_powW {X : Cx} : OpR X (binaryOp .Pow) (rI (fun i j => 0 ≤ j ∧ (Builtin.Int.intBits i : Int) * j ≤ 2 ^ 27) fun i j => .int (i ^ j.toNat)) := opI fun _ _ _ _ _ _ _ hc q => pow_int hc.1 hc.2 q
def pool (b sd c : Int) : HO := .dK [((.inr "big" : Key), .int b), (.inr "seed", .int sd), (.inr "k", .int c)]
theorem mk_pool (b sd c : Int) : mergeK [] [((.inr "big" : Key), V.int b), (.inr "seed", .int sd), (.inr "k", .int c)] = [((.inr "big" : Key), .int b), (.inr "seed", .int sd), (.inr "k", .int c)] := by
 first | rfl | kernel_rfl
theorem put_count (b sd c c' : Int) : putK [((.inr "big" : Key), V.int b), (.inr "seed", .int sd), (.inr "k", .int c)] (.inr "k") (.int c') = [((.inr "big" : Key), .int b), (.inr "seed", .int sd), (.inr "k", .int c')] := by
 first | rfl | kernel_rfl
theorem put_big (b sd c b' : Int) : putK [((.inr "big" : Key), V.int b), (.inr "seed", .int sd), (.inr "k", .int c)] (.inr "big") (.int b') = [((.inr "big" : Key), .int b'), (.inr "seed", .int sd), (.inr "k", .int c)] := by
 first | rfl | kernel_rfl
section
variable {H : Hp} {p : Addr} {b sd c : Int}
theorem get_count (h : H p = some (pool b sd c)) : DGet H p (.str "k") (some (.int c)) := DGet.k (k := (.inr "k" : Key)) h
theorem get_big (h : H p = some (pool b sd c)) : DGet H p (.str "big") (some (.int b)) := DGet.k (k := (.inr "big" : Key)) h
theorem getp_seed (h : H p = some (pool b sd c)) : DGet H p (.str "seed") (some (.int sd)) := DGet.k (k := (.inr "seed" : Key)) h
theorem dput_count (h : H p = some (pool b sd c)) (c' : Int) : DPut H p (.str "k") (.int c') (upd H p (pool b sd c')) := by
 have z := DPut.k (k := (.inr "k" : Key)) (v := .int c') h (by show 3 < sizeLine; rw [sizeLine_eq]; decide)
 rw [put_count] at z
 exact z
theorem dput_big (h : H p = some (pool b sd c)) (b' : Int) : DPut H p (.str "big") (.int b') (upd H p (pool b' sd c)) := by
 have z := DPut.k (k := (.inr "big" : Key)) (v := .int b') h (by show 3 < sizeLine; rw [sizeLine_eq]; decide)
 rw [put_big] at z
 exact z
end
theorem lt64a {a : Int} : -(2 ^ 64) < a.fmod 2147483629 + 1 ∧ a.fmod 2147483629 + 1 < 2 ^ 64 := by
 have := fmod_lt (a := a) (m := 2147483629) (by decide)
 omega
def spDraw : Sp := fun vs H Q _ => ∃ (p : Addr) (m b sd c : Int), vs = [.ref p, .int m] ∧ H p = some (pool b sd c) ∧ 0 ≤ b ∧ 1 ≤ m ∧ m < 1073741824 ∧
 ∀ (r b' c' : Int), 0 ≤ r → r < m → 0 ≤ b' → Q (.int r) (upd H p (pool b' sd c'))
section
variable {P : Program} {w : World} {K : PySem.W.Frag} {mg : Str → Option Value} {base : Heap}
theorem sc__law_pool : FnScope ["_law_script", "_law_k", "_law_cell", "_law_big"] ["_law_script", "_law_k"] (defScope s__law_pool) := ⟨rfl, rfl, rfl, by decide +kernel, rfl, by decide +kernel, by decide +kernel⟩
theorem sc__law_draw : FnScope ["_law_pool_here", "_law_many", "_law_digit", "_law_one", "_law_two"] ["_law_pool_here", "_law_many"] (defScope s__law_draw) := ⟨rfl, rfl, rfl, by decide +kernel, rfl, by decide +kernel, by decide +kernel⟩
theorem ok_draw {f : Addr} {fd : FuncData} (F : Fun K "_law_draw" "_law_draw" s__law_draw f fd) (T : Txt mg) : FnOk P w K mg base CX0 1 f fd ["_law_pool_here", "_law_many"] spDraw := by
 refine F.ok sc__law_draw (fun vs H Q E h => ?_) (fun cdv A outer s H vs Q E hr h => ?_)
 · obtain ⟨p, m, b, sd, c, rfl, _⟩ := h
   rfl
 · obtain ⟨p, m, b, sd, c, rfl, hp, hb, h1, h2, k⟩ := h
   have hu := hu_of hr
   refine ⟨_, (pss_cons (ps_dput hu (pv 0) pe_str (pe_op op_add (pe_dget hu (pv 0) pe_str (fun _ _ => rfl)) pe_int) rfl)
     (pss_cons (ps_if (pt_cmpR op_gt (pe_dget hu (pv 0) pe_str (fun _ _ => rfl)) pe_int (nomark _)) (pss_cons (ps_set (i := 2) sc__law_draw.nd rfl (.inl rfl) (pe_op op_modN (pe_callTy call_int1 (by rfl) T.b_int (by decide +kernel) (pa_cons (pe_dget hu (pv 0) pe_str (fun _ _ => rfl)) pa_nil)) (pv 1)))
     (pss_cons (ps_dput hu (pv 0) pe_str (pe_op op_fdivN (pe_dget hu (pv 0) pe_str (fun _ _ => rfl)) (pv 1)) rfl)
     (pss_one (ps_ret (pv 2))))) pss_nil)
     (pss_cons (ps_set (i := 3) sc__law_draw.nd rfl (.inl rfl) (pe_op op_add (pe_op op_modN (pe_callTy call_int1 (by rfl) T.b_int (by decide +kernel) (pa_cons (pe_op op_add (pe_op op_add (pe_op op_mul (pe_dget hu (pv 0) pe_str (fun _ _ => rfl)) pe_int) (pe_op op_mul (pe_dget hu (pv 0) pe_str (fun _ _ => rfl)) pe_int)) pe_int) pa_nil)) pe_int) pe_int))
     (pss_cons (ps_set (i := 4) sc__law_draw.nd rfl (.inl rfl) (pe_op op_modN (pe_callTy call_int1 (by rfl) T.b_int (by decide +kernel) (pa_cons (pe_op op_mul (pv 3) (pe_op op_add (pe_op op_fdivN (pv 3) pe_int) pe_int)) pa_nil)) pe_int))
     (pss_cons (ps_set (i := 4) sc__law_draw.nd rfl (.inl rfl) (pe_op op_modN (pe_callTy call_int1 (by rfl) T.b_int (by decide +kernel) (pa_cons (pe_op op_mul (pv 4) (pe_op op_add (pe_op op_fdivN (pv 4) pe_int) pe_int)) pa_nil)) pe_int))
     (pss_one (ps_ret (pe_op op_modN (pe_callTy call_int1 (by rfl) T.b_int (by decide +kernel) (pa_cons (pe_op op_fdivN (pv 4) pe_int) pa_nil)) (pv 1))))))))), ?_⟩
   refine ⟨_, rfl, p, _, rfl, get_count hp, _, _, rfl, rfl, _, rfl, p, _, rfl, dput_count hp _, ?_⟩
   have hp1 : upd H p (pool b sd (c + 1)) p = some (pool b sd (c + 1)) := upd_same
   refine ⟨_, rfl, p, _, rfl, get_big hp1, _, _, rfl, rfl, _, rfl, ?_⟩
   by_cases e : (0 : Int) < b
   · refine ifT (decide_eq_true e) ?_
     refine ⟨_, rfl, p, _, rfl, get_big hp1, .inl ⟨b, rfl, _, rfl, _, _, rfl, rfl, (by show m ≠ 0; omega), ?_⟩⟩
     refine ⟨_, rfl, p, _, rfl, get_big hp1, _, rfl, _, _, rfl, rfl, ⟨(by omega), (by omega)⟩, _, rfl, p, _, rfl, dput_big hp1 _, _, rfl, ?_⟩
     rw [upd_upd]
     exact k _ _ _ (fmod_lt (by omega)).1 (fmod_lt (by omega)).2 (Int.fdiv_nonneg (by omega) (by omega))
   · refine ifF (decide_eq_false e) ?_
     refine ⟨_, rfl, p, _, rfl, getp_seed hp1, _, _, rfl, rfl, .inr ⟨by decide, by decide⟩, _, rfl, p, _, rfl, get_count hp1, _, _, rfl, rfl, .inr ⟨by decide, by decide⟩, _, _, rfl, rfl, _, _, rfl, rfl, .inl ⟨_, rfl, _, _, rfl, rfl, (by show (2147483629 : Int) ≠ 0; decide), _, _, rfl, rfl, ?_⟩⟩
     refine ⟨_, rfl, _, rfl, _, _, rfl, rfl, ⟨by decide, by decide⟩, _, _, rfl, rfl, _, _, rfl, rfl, .inl lt64a, .inl ⟨_, rfl, _, _, rfl, rfl, (by show (2147483647 : Int) ≠ 0; decide), ?_⟩⟩
     refine ⟨_, rfl, _, rfl, _, _, rfl, rfl, ⟨by decide, by decide⟩, _, _, rfl, rfl, _, _, rfl, rfl, .inl lt64b, .inl ⟨_, rfl, _, _, rfl, rfl, (by show (2147483399 : Int) ≠ 0; decide), ?_⟩⟩
     refine ⟨_, rfl, _, _, rfl, rfl, ⟨by decide, by decide⟩, .inl ⟨_, rfl, _, rfl, _, _, rfl, rfl, (by show m ≠ 0; omega), ?_⟩⟩
     exact k _ _ _ (fmod_lt (by omega)).1 (fmod_lt (by omega)).2 hb
end
end Op
set_option pp.maxSteps 600
namespace Op
open PySem L2 PyProof.Rows
def Pp (H : Hp) (p : Addr) : Prop := ∃ b sd c, H p = some (pool b sd c) ∧ 0 ≤ b
section
variable {K : PySem.W.Frag} {H H' : Hp} {p : Addr}
theorem Pp.mono (h : Pp H p) (s : Same H H') : Pp H' p := let ⟨b, sd, c, e, z⟩ := h; ⟨b, sd, c, s _ _ e, z⟩
theorem Pp.dk (h : Pp H p) : ∃ kvs, H p = some (.dK kvs) := let ⟨_, _, _, h, _⟩ := h; ⟨_, h⟩
theorem Pp.ne {a : Addr} {o : HO} (h : Pp H p) (e : H a = some o) (n : ∀ kvs, o ≠ .dK kvs) : a ≠ p := fun q => by
 obtain ⟨_, hp⟩ := h.dk
 rw [q, hp] at e
 exact n _ (Option.some.inj e).symm
theorem Pp.kp (h : Pp H p) (b : But p H H') : Kp H H' := fun c o hc ho => b c o hc fun e => by
 obtain ⟨_, hp⟩ := h.dk
 rw [e, hp] at hc
 cases hc
 cases ho
end
def spDp : Sp := fun vs H Q _ => ∃ (p : Addr) (m : Int), vs = [.ref p, .int m] ∧ Pp H p ∧ 1 ≤ m ∧ m < 1073741824 ∧ ∀ (r : Nat) H', (r : Int) < m → But p H H' → Pp H' p → Q (.int (r : Int)) H'
section
variable {P : Program} {w : World} {K : PySem.W.Frag} {mg : Str → Option Value} {base : Heap}
theorem ok_drawP {f : Addr} {fd : FuncData} (h : FnOk P w K mg base CX0 1 f fd ["_law_pool_here", "_law_many"] spDraw) : FnOk P w K mg base CX0 1 f fd ["_law_pool_here", "_law_many"] spDp := by
 refine h.imp fun vs H Q E hq => ?_
 obtain ⟨p, m, rfl, ⟨b, sd, c, hp, hb⟩, h1, h2, k⟩ := hq
 refine ⟨p, m, b, sd, c, rfl, hp, hb, h1, h2, fun r b' c' r1 r2 hb' => ?_⟩
 have := k r.toNat (upd H p (pool b' sd c')) (by omega) (fun a o ha n => by rw [L2.upd_ne n]; exact ha) ⟨b', sd, c', upd_same, hb'⟩
 rw [Int.toNat_of_nonneg r1] at this
 exact this
end
end Op
set_option pp.maxSteps 700
namespace Op
open PySem L2 TL PyProof.Rows
theorem nestL_snoc : ∀ (ks : List Nat) (lv k : Nat), nestL lv (ks ++ [k]) = nestL lv ks ++ [Txt.mul "  " ((lv + ks.length : Nat) : Int) ++ word3 k]
 | [], lv, k => rfl
 | a :: r, lv, k => by
   show (Txt.mul "  " (lv : Int) ++ word3 a) :: nestL (lv + 1) (r ++ [k]) = (Txt.mul "  " (lv : Int) ++ word3 a) :: (nestL (lv + 1) r ++ _)
   rw [nestL_snoc r (lv + 1) k, List.length_cons, show lv + 1 + r.length = lv + (r.length + 1) by omega]
theorem nestT_snoc (ks : List Nat) (k : Nat) : nestT (ks ++ [k]) = nestT ks ++ [Txt.mul "  " ((1 + ks.length : Nat) : Int) ++ word3 k] := by
 unfold nestT
 rw [nestL_snoc]
 rfl
theorem sq_updL {K : PySem.W.Frag} {H : Hp} {u D : Addr} {xs ys : List V} {o : HO} (h : SqT K H u xs) (hD : H D = some (.lst ys)) : SqT K (upd H D o) u xs := by
 have h1 := SqT.cut (S := fun b => b = D) (fun b (e : b = D) => e ▸ ⟨_, hD⟩) h
 rw [← cut_upd (S := fun b => b = D) (o := o) (show D = D from rfl)] at h1
 exact h1.mono cut_all
theorem zeros_app (a b : Nat) : List.replicate a (V.int 0) ++ List.replicate b (V.int 0) = List.replicate (a + b) (V.int 0) := List.replicate_append_replicate
def zeros (n : Nat) : List V := List.replicate n (V.int 0)
section
variable {P : Program} {w : World} {K : PySem.W.Frag} {mg : Str → Option Value} {base : Heap} {pU pC CT CA CH pZ CL CP CI CR CN : Addr}
def spNest (K : PySem.W.Frag) : Sp := fun vs H Q _ => ∃ (p : Addr) (n : Nat), vs = [.ref p, .int (n : Int)] ∧ Pp H p ∧ n ≤ 2000 ∧ ∀ t l u ks H', ks.length = n → (∀ k ∈ ks, k < 3) → But p H H' → Pp H' p → SqT K H' t [.ref l, .ref u] → H' l = some (.lst ((nestT ks).map V.str)) → SqT K H' u (zeros (2 * min n 4 + 1)) → Q (.ref t) H'
theorem sc__law_nested : FnScope ["_law_pool_here", "_law_deep", "_law_lines", "_law_path", "_law_level", "_law_k"] ["_law_pool_here", "_law_deep"] (defScope s__law_nested) := ⟨rfl, rfl, rfl, by decide +kernel, rfl, by decide +kernel, by decide +kernel⟩
theorem ok_lnested {f : Addr} {fd : FuncData} (F : Fun K "_law_nested" "_law_nested" s__law_nested f fd) (T : TxtX P w K mg pU pC CT CA pZ CH CI CR CN CP) (c__law_draw : Cal P w K mg base CX0 1 "_law_draw" ["_law_pool_here", "_law_many"] spDp) : FnOk P w K mg base CX0 2 f fd ["_law_pool_here", "_law_deep"] (spNest K) := by
 refine F.ok sc__law_nested (fun vs H Q E h => ?_) (fun cdv A outer s H vs Q E hr h => ?_)
 · obtain ⟨p, n, rfl, _⟩ := h
   rfl
 · obtain ⟨p, n, rfl, hp, hn, k⟩ := h
   refine ⟨_, (pss_cons (ps_set (i := 2) sc__law_nested.nd rfl (.inl rfl) (pe_lst (pa_cons pe_str (pa_cons pe_str pa_nil))))
     (pss_cons (ps_set (i := 3) sc__law_nested.nd rfl (.inl rfl) (pe_tup pa_nil))
     (pss_cons (ps_set (i := 4) sc__law_nested.nd rfl (.inl rfl) pe_int)
     (pss_cons (ps_for PassesOwn.never rfl (pi_range1 (by rfl) T.b_range (pa_cons (pv 1) pa_nil)) (pg_name (i := 5) sc__law_nested.nd rfl (.inl rfl)) (pss_cons (ps_expr (pe_bm PySem.F.plainAttrs_list PySem.F.slot_list_append PySem.F.type_list_append mt_append (pv 2) (pa_cons (pe_op op_add_str (pe_op op_mulB pe_str (pv 4)) (pe_ix ix_list (pe_lst (pa_cons pe_str (pa_cons pe_str (pa_cons pe_str pa_nil)))) (pe_cal c__law_draw (hr.mono (by omega)) rfl pass0 (pa_cons (pv 0) (pa_cons pe_int pa_nil))) (fun _ _ => rfl))) pa_nil)))
     (pss_cons (ps_if (pt_cmpR op_lt (pv 5) pe_int (nomark _)) (pss_one (ps_set (i := 3) sc__law_nested.nd rfl (.inl rfl) (pe_op op_catA (pv 3) (pe_tup (pa_cons pe_int (pa_cons pe_int pa_nil)))))) pss_nil)
     (pss_one (ps_set (i := 4) sc__law_nested.nd rfl (.inl rfl) (pe_op op_add (pv 4) pe_int))))))
     (pss_one (ps_ret (pe_tup (pa_cons (pv 2) (pa_cons (pe_op op_catA (pv 3) (pe_tup (pa_cons pe_int pa_nil))) pa_nil))))))))), ?_⟩
   refine ⟨sz_lit (by show 2 ≤ 100000; decide), fun D nD => ⟨Nat.zero_le _, fun u0 nu0 => ?_⟩⟩
   have s1 : Same H (upd H D (.lst [.str "inputs go", .str "rows"])) := Same.new nD
   have s2 := s1.trans (Same.new (o := .tup []) nu0)
   have hD0 : upd (upd H D (.lst [.str "inputs go", .str "rows"])) u0 (.tup []) D = some (.lst [.str "inputs go", .str "rows"]) := Same.new nu0 _ _ upd_same
   have hu0 : upd (upd H D (.lst [.str "inputs go", .str "rows"])) u0 (.tup []) u0 = some (.tup []) := upd_same
   revert s2 hD0 hu0
   generalize upd (upd H D (.lst [.str "inputs go", .str "rows"])) u0 (.tup []) = H1
   intro s2 hD0 hu0
   have nDp : D ≠ p := fun e => by
     obtain ⟨_, h⟩ := hp.dk
     rw [← e, nD] at h
     cases h
   refine ⟨_, rfl, (n : Int), rfl, by omega, by omega, ?_⟩
   rw [Int.toNat_natCast]
   refine for_it (walk_range (lo := 0) (n := n)) (fun i σ G => ∃ (ks : List Nat) (u : Addr) (y5 : Option V), σ = [some (.ref p), some (.int (n : Int)), some (.ref D), some (.ref u), some (.int ((i : Int) + 1)), y5] ∧ ks.length = i ∧ (∀ k ∈ ks, k < 3) ∧ But p H G ∧ Pp G p ∧ G D = some (.lst ((nestT ks).map V.str)) ∧ SqT K G u (zeros (2 * min i 4))) ⟨[], u0, _, rfl, rfl, fun k hk => (List.not_mem_nil hk).elim, fun b o h _ => s2 b o h, hp.mono s2, hD0, .inl (.inl hu0)⟩ (fun _ _ _ _ _ => trivial) ?_ ?_
   · rintro i x σ G1 G hi ⟨ks, u, y5, rfl, hkl, hk3, bG, pG, hD, hu⟩ ⟨rfl, rfl⟩
     show gName 5 (V.int (0 + (i : Int))) _ _ _
     rw [Int.zero_add]
     refine ⟨_, rfl, .inl ⟨rfl, _, .inl (.inl hD)⟩, _, rfl, _, _, rfl, rfl, by omega, by omega, by decide, sz_lit (by show 3 ≤ 100000; decide), fun q nq => ⟨_, rfl, p, 3, rfl, pG.mono (Same.new nq), by decide, by decide, fun r G2 hr b2 p2 => ?_⟩⟩
     have nqp : q ≠ p := fun e => by
       obtain ⟨_, h⟩ := pG.dk
       rw [← e, nq] at h
       cases h
     have hq2 := b2 _ _ upd_same nqp
     have hD2 := b2 _ _ (Same.new nq _ _ hD) nDp
     have hat : ([V.str "loop", .str "part", .str "past g"] : List V)[r]? = some (V.str (word3 r)) := by
       rcases lt3 (show r < 3 by omega) with rfl | rfl | rfl <;> rfl
     have bG2 : But p G G2 := (But.of (Same.new nq)).tr b2
     have hu2 := hu.kp (pG.kp bG2)
     have hml : (Txt.mul "  " ((i : Int) + 1)).length = 2 * (i + 1) := by
       rw [show ((i : Int) + 1) = ((i + 1 : Nat) : Int) from rfl, len_tl, tl_mul2, List.length_replicate]
     have hwl : (word3 r).length ≤ 6 := by
       rcases lt3 (show r < 3 by omega) with rfl | rfl | rfl <;> decide +kernel
     have hnl : (nestT ks).length = ks.length + 2 := by show (nestL 1 ks).length + 1 + 1 = _; rw [nestL_len]
     refine ⟨q, _, (r : Int), _, rfl, rfl, .inl (.inl hq2), atI_nat hat, _, _, rfl, rfl, by rw [hml, sizeLine_eq]; omega, D, _, _, rfl, rfl, hD2, lt_sz (by rw [List.length_map, hnl]; omega), ?_⟩
     have b3 : But p H (upd G2 D (.lst ((nestT ks).map V.str ++ [V.str (Txt.mul "  " ((i : Int) + 1) ++ word3 r)]))) := fun c o hc hne => by
       rw [L2.upd_ne (fun e => by rw [e, nD] at hc; cases hc)]
       exact (bG.tr bG2) c o hc hne
     have p3 : Pp (upd G2 D (.lst ((nestT ks).map V.str ++ [V.str (Txt.mul "  " ((i : Int) + 1) ++ word3 r)]))) p := by
       obtain ⟨b, sd, c, e, z⟩ := p2
       exact ⟨b, sd, c, by rw [L2.upd_ne nDp.symm]; exact e, z⟩
     have hu3 := sq_updL (o := .lst ((nestT ks).map V.str ++ [V.str (Txt.mul "  " ((i : Int) + 1) ++ word3 r)])) hu2 hD2
     have hD3 : upd G2 D (.lst ((nestT ks).map V.str ++ [V.str (Txt.mul "  " ((i : Int) + 1) ++ word3 r)])) D = some (.lst ((nestT (ks ++ [r])).map V.str)) := by
       rw [nestT_snoc, List.map_append, show ((1 + ks.length : Nat) : Int) = (i : Int) + 1 by omega]
       exact upd_same
     revert b3 p3 hu3 hD3
     generalize upd G2 D (.lst ((nestT ks).map V.str ++ [V.str (Txt.mul "  " ((i : Int) + 1) ++ word3 r)])) = G3
     intro b3 p3 hu3 hD3
     have hk3' : ∀ k ∈ ks ++ [r], k < 3 := fun k hk => by
       rcases List.mem_append.mp hk with h | h
       · exact hk3 k h
       · rw [List.mem_singleton.mp h]; omega
     have hkl' : (ks ++ [r]).length = i + 1 := by rw [List.length_append, hkl]; rfl
     have fin : ∀ (u' : Addr) (G4 : Hp), Same G3 G4 → SqT K G4 u' (zeros (2 * min (i + 1) 4)) → ∃ (ks' : List Nat) (u : Addr) (y5 : Option V), [some (V.ref p), some (V.int (n : Int)), some (V.ref D), some (V.ref u'), some (V.int ((i : Int) + 1 + 1)), some (V.int (i : Int))] = [some (V.ref p), some (V.int (n : Int)), some (V.ref D), some (V.ref u), some (V.int (((i + 1 : Nat) : Int) + 1)), y5] ∧ ks'.length = i + 1 ∧ (∀ k ∈ ks', k < 3) ∧ But p H G4 ∧ Pp G4 p ∧ G4 D = some (.lst ((nestT ks').map V.str)) ∧ SqT K G4 u (zeros (2 * min (i + 1) 4)) :=
       fun u' G4 s4 hu' => ⟨ks ++ [r], u', _, rfl, hkl', hk3', b3.tr (But.of s4), p3.mono s4, s4 _ _ hD3, hu'⟩
     refine ⟨_, rfl, _, _, rfl, rfl, _, rfl, ?_⟩
     by_cases h4 : (i : Int) < 4
     · refine ifT (decide_eq_true h4) ⟨_, rfl, sz_lit (by show 2 ≤ 100000; decide), fun q2 nq2 => ⟨u, q2, _, _, rfl, rfl, hu3.mono (Same.new nq2), .inl (.inl upd_same), ?_, fun e0 => ?_, ?_, fun _ _ q3 nq3 => ?_⟩⟩
       · unfold zeros
         rw [List.length_replicate, sizeLine_eq]
         show _ + 2 ≤ _
         omega
       · have hi0 : i = 0 := by
           have := congrArg List.length e0
           unfold zeros at this
           rw [List.length_replicate] at this
           simp at this
           omega
         subst hi0
         exact ⟨_, rfl, _, _, rfl, rfl, fin q2 _ (Same.new nq2) (.inl (.inl upd_same))⟩
       · intro _ e0
         cases e0
       · refine ⟨_, rfl, _, _, rfl, rfl, fin q3 _ ((Same.new nq2).trans (Same.new nq3)) (.inl (.inl ?_))⟩
         have ez : zeros (2 * min i 4) ++ [V.int 0, V.int 0] = zeros (2 * min (i + 1) 4) := by
           have := zeros_app (2 * min i 4) 2
           rw [show 2 * min i 4 + 2 = 2 * min (i + 1) 4 by omega] at this
           exact this
         rw [← ez]
         exact upd_same
     · refine ifF (decide_eq_false h4) ⟨_, rfl, _, _, rfl, rfl, fin u G3 (Same.refl G3) ?_⟩
       rw [show min (i + 1) 4 = min i 4 by omega]
       exact hu3
   · rintro σ G ⟨ks, u, y5, rfl, hkl, hk3, bG, pG, hD, hu⟩
     refine ⟨_, rfl, _, rfl, sz_lit (by show 1 ≤ 100000; decide), fun q2 nq2 => ⟨u, q2, _, _, rfl, rfl, hu.mono (Same.new nq2), .inl (.inl upd_same), ?_, fun e0 => ?_, ?_, fun _ _ q3 nq3 => ?_⟩⟩
     · unfold zeros
       rw [List.length_replicate, sizeLine_eq]
       show _ + 1 ≤ _
       omega
     · have hi0 : n = 0 := by
         have := congrArg List.length e0
         unfold zeros at this
         rw [List.length_replicate] at this
         simp at this
         omega
       subst hi0
       refine ⟨sz_lit (by show 2 ≤ 100000; decide), fun t nt => ?_⟩
       have s4 := (Same.new (o := .tup [V.int 0]) nq2).trans (Same.new (o := .tup [.ref D, .ref q2]) nt)
       exact k t D q2 ks _ hkl hk3 (bG.tr (But.of s4)) (pG.mono s4) (.inl (.inl upd_same)) (s4 _ _ hD) (.inl (.inl (Same.new nt _ _ upd_same)))
     · intro _ e0
       cases e0
     · refine ⟨sz_lit (by show 2 ≤ 100000; decide), fun t nt => ?_⟩
       have s4 := ((Same.new (o := .tup [V.int 0]) nq2).trans (Same.new (o := .tup (zeros (2 * min n 4) ++ [V.int 0])) nq3)).trans (Same.new (o := .tup [.ref D, .ref q3]) nt)
       have ez : zeros (2 * min n 4) ++ [V.int 0] = zeros (2 * min n 4 + 1) := zeros_app (2 * min n 4) 1
       exact k t D q3 ks _ hkl hk3 (bG.tr (But.of s4)) (pG.mono s4) (.inl (.inl upd_same)) (s4 _ _ hD) (ez ▸ .inl (.inl (Same.new nt _ _ upd_same)))
end
end Op
set_option pp.maxSteps 700
namespace Op
open PySem L2 TL PyProof.Rows
theorem cut25 (z : Str) : tl (cutS z none (some 25)) = (tl z).take 25 := by
 unfold cutS
 rw [HT.sIx_none, show HT.sIx z.length z.length (some 25) = min 25 z.length from HT.sIx_nat _ _ 25]
 show (((tl z).drop 0).take (min 25 z.length - 0)) = _
 rw [List.drop_zero, Nat.sub_zero, len_tl]
 rcases Nat.le_total 25 (tl z).length with h | h
 · rw [Nat.min_eq_left h]
 · rw [Nat.min_eq_right h, List.take_of_length_le (Nat.le_refl _), List.take_of_length_le h]
theorem sp25 : tl (Txt.mul " " 25) = List.replicate 25 32 := by decide +kernel
theorem hit25 (z : Str) : decide (V.str (cutS z none (some 25)) = V.str (Txt.mul " " 25)) = decide ((tl z).take 25 = List.replicate 25 32) := decide_eq_decide.mpr ⟨fun h => by
 injection h with h
 have := congrArg tl h
 rw [cut25, sp25] at this
 exact this, fun h => by
 rw [← cut25, ← sp25] at h
 have : cutS z none (some 25) = Txt.mul " " 25 := by
   have := map_tl_inj (l := [cutS z none (some 25)]) (m := [Txt.mul " " 25]) (by rw [List.map_cons, List.map_cons, h])
   injection this
 rw [this]⟩
theorem pad_hit {lv k : Nat} (h : 13 ≤ lv) : (tl (Txt.mul "  " (lv : Int) ++ word3 k)).take 25 = List.replicate 25 32 := by
 rw [tl_append, tl_mul2, List.take_append_of_le_length (by rw [List.length_replicate]; omega), List.take_replicate, show min 25 (2 * lv) = 25 by omega]
theorem pad_miss {lv k : Nat} (h : lv ≤ 12) : (tl (Txt.mul "  " (lv : Int) ++ word3 k)).take 25 ≠ List.replicate 25 32 := fun e => by
 obtain ⟨c, r, hw, hc⟩ := word3_hd k
 rw [tl_append, tl_mul2, hw] at e
 have h1 : ((List.replicate (2 * lv) 32 ++ c :: r).take 25)[2 * lv]? = (List.replicate 25 32)[2 * lv]? := by rw [e]
 rw [List.getElem?_take_of_lt (by omega), List.getElem?_append_right (by rw [List.length_replicate]; exact Nat.le_refl _), List.length_replicate, Nat.sub_self, List.getElem?_replicate, if_pos (by omega)] at h1
 exact hc (Option.some.inj h1)
theorem nestL_get : ∀ (ks : List Nat) (lv i : Nat) (z : Str), (nestL lv ks)[i]? = some z → ∃ k, z = Txt.mul "  " ((lv + i : Nat) : Int) ++ word3 k
 | [], lv, i, z, h => by cases h
 | k :: r, lv, 0, z, h => ⟨k, (Option.some.inj h).symm⟩
 | k :: r, lv, i + 1, z, h => by
   obtain ⟨k', e⟩ := nestL_get r (lv + 1) i z h
   exact ⟨k', by rw [e, show lv + 1 + i = lv + (i + 1) by omega]⟩
theorem due_at {ks : List Nat} {i : Nat} {z : Str} (h : (nestT ks)[i]? = some z) : decide ((tl z).take 25 = List.replicate 25 32) = decide (14 ≤ i) := by
 match i, h with
 | 0, h =>
   obtain rfl := Option.some.inj h
   decide +kernel
 | 1, h =>
   obtain rfl := Option.some.inj h
   decide +kernel
 | i + 2, h =>
   obtain ⟨k, rfl⟩ := nestL_get ks 1 i z h
   by_cases hi : 12 ≤ i
   · rw [decide_eq_true (pad_hit (by omega)), decide_eq_true (by omega)]
   · rw [decide_eq_false (pad_miss (by omega)), decide_eq_false (by omega)]
theorem nestT_len {ks : List Nat} {i : Nat} {z : Str} (hn : ks.length ≤ 2000) (h : (nestT ks)[i]? = some z) : z.length ≤ 4100 := by
 match i, h with
 | 0, h =>
   obtain rfl := Option.some.inj h
   decide +kernel
 | 1, h =>
   obtain rfl := Option.some.inj h
   decide +kernel
 | i + 2, h =>
   have hi := (List.getElem?_eq_some_iff.mp (show (nestL 1 ks)[i]? = some z from h)).1
   rw [nestL_len] at hi
   obtain ⟨k, rfl⟩ := nestL_get ks 1 i z h
   have hw : (word3 k).length ≤ 6 := by
     unfold word3
     by_cases h0 : k = 0
     · rw [if_pos h0]; decide +kernel
     · rw [if_neg h0]
       by_cases h1 : k = 1
       · rw [if_pos h1]; decide +kernel
       · rw [if_neg h1]; decide +kernel
   rw [PySem.Str.length_append, len_tl, tl_mul2, List.length_replicate]
   omega
section
variable {P : Program} {w : World} {K : PySem.W.Frag} {mg : Str → Option Value} {base : Heap} {pU pC CT CA CH pZ CL CP CI CR CN : Addr}
def spDueN (K : PySem.W.Frag) : Sp := fun vs H Q _ => ∃ (l u : Addr) (ks : List Nat), vs = [.ref l, .ref u, .int (ks.length : Int)] ∧ ks.length ≤ 2000 ∧ H l = some (.lst ((nestT ks).map V.str)) ∧ SqT K H u (zeros (2 * min ks.length 4 + 1)) ∧ ∀ t H', Same H H' → Dp K H' t (resD (nestR ks)) → Q t H'
theorem sc__law_nested_due : FnScope ["_law_lines", "_law_path", "_law_deep", "_law_k"] ["_law_lines", "_law_path", "_law_deep"] (defScope s__law_nested_due) := ⟨rfl, rfl, rfl, by decide +kernel, rfl, by decide +kernel, by decide +kernel⟩
theorem ok_ldue {f : Addr} {fd : FuncData} (F : Fun K "_law_nested_due" "_law_nested_due" s__law_nested_due f fd) (T : TxtX P w K mg pU pC CT CA pZ CH CI CR CN CP) : FnOk P w K mg base CX0 1 f fd ["_law_lines", "_law_path", "_law_deep"] (spDueN K) := by
 refine F.ok sc__law_nested_due (fun vs H Q E h => ?_) (fun cdv A outer s H vs Q E hr h => ?_)
 · obtain ⟨l, u, ks, rfl, _⟩ := h
   rfl
 · obtain ⟨l, u, ks, rfl, hn, hl, hu, k⟩ := h
   refine ⟨_, (pss_cons (ps_for PassesOwn.never rfl (pi_range1 (by rfl) T.b_range (pa_cons (pe_callB call_len_seq (by rfl) T.b_len (by decide +kernel) (pa_cons (pv 0) pa_nil)) pa_nil)) (pg_name (i := 3) sc__law_nested_due.nd rfl (.inl rfl)) (pss_one (ps_if (pt_cmpR op_eq (pe_slice sl_str (pe_ix ix_list (pv 0) (pv 3) (fun _ _ => rfl)) po_none (po_some pe_int)) (pe_op op_mulB pe_str pe_int) (nomark _)) (pss_one (ps_ret (pe_tup (pa_cons pe_str (pa_cons (pe_op op_add (pv 3) pe_int) (pa_cons pe_bl pa_nil)))))) pss_nil)))
     (pss_cons (ps_if (pt_cmpR op_gt (pv 2) pe_int (nomark _)) (pss_one (ps_ret (pe_tup (pa_cons pe_str (pa_cons (pv 1) (pa_cons pe_bl pa_nil)))))) pss_nil)
     (pss_one (ps_ret (pe_tup (pa_cons pe_str (pa_cons pe_non (pa_cons pe_bl pa_nil)))))))), ?_⟩
   have hnl : (nestT ks).length = ks.length + 2 := by show (nestL 1 ks).length + 1 + 1 = _; rw [nestL_len]
   refine ⟨_, rfl, l, _, rfl, .inl (.inl (.inl hl)), ((nestT ks).length : Int), by rw [List.length_map], by omega, by omega, ?_⟩
   rw [Int.toNat_natCast]
   refine for_it (walk_range (lo := 0) (n := (nestT ks).length)) (fun i σ G => (∃ y3 : Option V, σ = [some (.ref l), some (.ref u), some (.int (ks.length : Int)), y3]) ∧ G = H ∧ i ≤ 14) ⟨⟨_, rfl⟩, rfl, Nat.zero_le _⟩ (fun _ _ _ _ _ => trivial) ?_ ?_
   · rintro i x σ G1 G hi ⟨⟨y3, rfl⟩, rfl, h14⟩ ⟨rfl, rfl⟩
     show gName 3 (V.int (0 + (i : Int))) _ _ _
     rw [Int.zero_add]
     have hz : (nestT ks)[i]? = some (nestT ks)[i] := List.getElem?_eq_getElem hi
     revert hz
     generalize (nestT ks)[i] = z
     intro hz
     refine ⟨_, rfl, _, rfl, l, _, (i : Int), .str z, rfl, rfl, .inl (.inl hl), atI_nat (by rw [List.getElem?_map, hz]; rfl), ?_⟩
     have hzl := nestT_len hn hz
     refine ⟨_, rfl, z, rfl, by rw [sizeLine_eq]; omega, _, _, rfl, rfl, by decide, by decide, by decide, rfl, _, rfl, ?_⟩
     rw [hit25, due_at hz]
     by_cases hb : 14 ≤ i
     · obtain rfl : i = 14 := by omega
       refine ifT (decide_eq_true hb) ⟨_, rfl, _, _, rfl, rfl, sz_lit (by show 3 ≤ 100000; decide), fun t nt => k _ _ (Same.new nt) ?_⟩
       unfold nestR
       rw [if_pos (by omega)]
       exact .tup (.inl (.inl upd_same)) (.cons (.str _) (.cons (.int _) (.cons (.bl _) .nil)))
     · exact ifF (decide_eq_false hb) ⟨⟨_, rfl⟩, rfl, by omega⟩
   · rintro σ G ⟨⟨y3, rfl⟩, rfl, h14⟩
     have h12 : ks.length ≤ 12 := by omega
     refine ⟨_, rfl, _, _, rfl, rfl, _, rfl, ?_⟩
     by_cases h4 : (4 : Int) < ks.length
     · refine ifT (decide_eq_true h4) ⟨_, rfl, sz_lit (by show 3 ≤ 100000; decide), fun t nt => k _ _ (Same.new nt) ?_⟩
       unfold nestR
       rw [if_neg (by omega), if_pos (by omega)]
       have hu' := hu.mono (Same.new (o := .tup [.str "rows", .ref u, .bl true]) nt)
       rw [show 2 * min ks.length 4 + 1 = 9 by omega] at hu'
       exact .tup (.inl (.inl upd_same)) (.cons (.str _) (.cons (.tup hu' (dpa_ints [0, 0, 0, 0, 0, 0, 0, 0, 0])) (.cons (.bl _) .nil)))
     · refine ifF (decide_eq_false h4) ⟨sz_lit (by show 3 ≤ 100000; decide), fun t nt => k _ _ (Same.new nt) ?_⟩
       unfold nestR
       rw [if_neg (by omega), if_neg (by omega)]
       exact .tup (.inl (.inl upd_same)) (.cons (.str _) (.cons .non (.cons (.bl _) .nil)))
end
end Op
namespace Op
open PySem L2 PyProof.Rows
section
variable {P : Program} {w : World} {K : PySem.W.Frag} {mg : Str → Option Value} {base : Heap}
def spPoolN (K : PySem.W.Frag) : Sp := fun vs H Q _ => ∃ (a : Addr) (ns : List Int) (m : Nat), vs = [.ref a, .int (m : Int)] ∧ SqL K H a (ns.map V.int) ∧ ns.length ≤ 63 ∧
 ∀ (p : Addr) (b sd c : Int), H p = none → 0 ≤ b → Q (.ref p) (upd H p (pool b sd c))
theorem ok_poolN {f : Addr} {fd : FuncData} (F : Fun K "_law_pool" "_law_pool" s__law_pool f fd) (T : Txt mg) : FnOk P w K mg base CX0 1 f fd ["_law_script", "_law_k"] (spPoolN K) := by
 refine F.ok sc__law_pool (fun vs H Q E h => ?_) (fun cdv A outer s H vs Q E hr h => ?_)
 · obtain ⟨a, ns, m, rfl, _⟩ := h
   rfl
 · obtain ⟨a, ns, m, rfl, hS, hlen, k⟩ := h
   refine ⟨_, (pss_cons (ps_set (i := 2) sc__law_pool.nd rfl (.inl rfl) pe_int)
     (Evl.pss_cut (ps_if (pt_cmpR op_lt (pv 1) (pe_callB call_len_seq (by rfl) T.b_len (by decide +kernel) (pa_cons (pv 0) pa_nil)) (nomark _)) (pss_one (ps_set (i := 2) sc__law_pool.nd rfl (.inl rfl) (pe_callTy call_int1 (by rfl) T.b_int (by decide +kernel) (pa_cons (pe_ix ix_list (pv 0) (pv 1) (fun _ _ => rfl)) pa_nil)))) pss_nil)
     (pss_cons (ps_set (i := 3) sc__law_pool.nd rfl (.inl rfl) pe_int)
     (Evl.pss_cut (ps_if (pt_cmpR op_ge (pv 2) (pe_op op_pow pe_int pe_int) (nomark _)) (pss_one (ps_set (i := 3) sc__law_pool.nd rfl (.inl rfl) (pe_op op_modN (pe_callTy call_int1 (by rfl) T.b_int (by decide +kernel) (pa_cons (pv 2) pa_nil)) (pe_op op_powW (pe_op op_pow pe_int pe_int) pe_int)))) pss_nil)
     (pss_one (ps_ret (pe_disp (pps_cons pe_str (pv 3) (pps_cons pe_str (pe_op op_modN (pe_callTy call_int1 (by rfl) T.b_int (by decide +kernel) (pa_cons (pv 2) pa_nil)) pe_int) (pps_cons pe_str (pe_op op_mul pe_int (pv 1)) pps_nil))) (by rfl) (by rfl) (fun z => by cases z) (by decide)))))))), ?_⟩
   refine ⟨fun σ H' => H' = H ∧ ∃ c : Int, σ = [some (.ref a), some (.int (m : Int)), some (.int c), none], ?_, ?_⟩
   · refine ⟨_, rfl, _, rfl, a, _, rfl, .inl hS, _, _, rfl, rfl, _, rfl, ?_⟩
     by_cases c : (m : Int) < ((ns.map V.int).length : Int)
     · refine ifT (decide_eq_true c) ?_
       rw [List.length_map] at c
       have hm : m < ns.length := by omega
       have hg : (ns.map V.int)[m]? = some (.int ns[m]) := by rw [List.getElem?_map, List.getElem?_eq_getElem hm]; rfl
       exact ⟨_, rfl, _, rfl, a, _, _, _, rfl, rfl, hS, atI_nat (j := m) hg, .inl ⟨ns[m], rfl, rfl, ns[m], rfl⟩⟩
     · exact ifF (decide_eq_false c) ⟨rfl, 0, rfl⟩
   · rintro _ H1 ⟨e1, c, rfl⟩
     subst e1
     refine ⟨fun σ H' => H' = H1 ∧ ∃ b : Int, 0 ≤ b ∧ σ = [some (.ref a), some (.int (m : Int)), some (.int c), some (.int b)], ?_, ?_⟩
     · refine ⟨_, rfl, _, _, rfl, rfl, ⟨by decide, by decide, by decide⟩, _, _, rfl, rfl, _, rfl, ?_⟩
       by_cases e : (10 : Int) ^ (18 : Int).toNat ≤ c
       · refine ifT (decide_eq_true e) ?_
         refine ⟨_, rfl, .inl ⟨c, rfl, ?_⟩⟩
         refine ⟨_, _, rfl, rfl, ⟨by decide, by decide, by decide⟩, _, _, rfl, rfl, ⟨by decide, by decide +kernel⟩, _, _, rfl, rfl, (by show ((10 : Int) ^ (50 : Int).toNat) ^ (8 : Int).toNat ≠ 0; decide +kernel), rfl, _, ?_, rfl⟩
         exact Int.fmod_nonneg_of_pos _ (by decide +kernel)
       · exact ifF (decide_eq_false e) ⟨rfl, 0, by decide, rfl⟩
     · rintro _ H2 ⟨e2, b, hb, rfl⟩
       subst e2
       intro p hp
       refine ⟨_, rfl, _, rfl, .inl ⟨c, rfl, _, _, rfl, rfl, (by show (2147483647 : Int) ≠ 0; decide), _, rfl, _, _, rfl, rfl, .inl ⟨by decide, by decide⟩, upd_same, [((.inr "big" : Key), .int b), (.inr "seed", .int (c.fmod 2147483647)), (.inr "k", .int (7 * (m : Int)))], rfl, (by show 3 ≤ 15; decide), ?_⟩⟩
       refine (congrArg (fun l => Q (.ref p) l) ?_).mp (k p b (c.fmod 2147483647) (7 * (m : Int)) hp hb)
       rw [mk_pool]
       exact upd_upd.symm
end
end Op
set_option pp.maxSteps 700
namespace Op
open PySem L2 TL PyProof.Rows
section
variable {P : Program} {w : World} {K : PySem.W.Frag} {mg : Str → Option Value} {base : Heap}
def spPoolM (K : PySem.W.Frag) : Sp := fun vs H Q _ => ∃ (a : Addr) (ns : List Int) (m : Nat), vs = [.ref a, .int (m : Int)] ∧ SqL K H a (ns.map V.int) ∧ ns.length ≤ 63 ∧ ∀ p H', H p = none → But p H H' → Pp H' p → Q (.ref p) H'
theorem ok_poolM {f : Addr} {fd : FuncData} (h : FnOk P w K mg base CX0 1 f fd ["_law_script", "_law_k"] (spPoolN K)) : FnOk P w K mg base CX0 1 f fd ["_law_script", "_law_k"] (spPoolM K) := by
 refine h.imp fun vs H Q E hq => ?_
 obtain ⟨a, ns, m, rfl, h1, h2, k⟩ := hq
 exact ⟨a, ns, m, rfl, h1, h2, fun p b sd c hp hb => k p _ hp (fun a o ha n => by rw [L2.upd_ne n]; exact ha) ⟨b, sd, c, upd_same, hb⟩⟩
def spItemM : Sp := fun vs H Q _ => ∃ (p l : Addr) (zs : List Str), vs = [.ref p, .ref l] ∧ Pp H p ∧ H l = some (.lst (zs.map V.str)) ∧ zs ≠ [] ∧ zs.length ≤ 1000 ∧ ∀ z ∈ zs, ∀ H', But p H H' → Pp H' p → Q (.str z) H'
theorem sc__law_item : FnScope ["_law_pool_here", "_law_items"] ["_law_pool_here", "_law_items"] (defScope s__law_item) := ⟨rfl, rfl, rfl, by decide +kernel, rfl, by decide +kernel, by decide +kernel⟩
theorem ok_litem {f : Addr} {fd : FuncData} (F : Fun K "_law_item" "_law_item" s__law_item f fd) (T : Txt mg) (c__law_draw : Cal P w K mg base CX0 1 "_law_draw" ["_law_pool_here", "_law_many"] spDp) : FnOk P w K mg base CX0 2 f fd ["_law_pool_here", "_law_items"] spItemM := by
 refine F.ok sc__law_item (fun vs H Q E h => ?_) (fun cdv A outer s H vs Q E hr h => ?_)
 · obtain ⟨p, l, zs, rfl, _⟩ := h
   rfl
 · obtain ⟨p, l, zs, rfl, hp, hl, hne, hn, k⟩ := h
   refine ⟨_, (pss_one (ps_ret (pe_ix ix_list (pv 1) (pe_cal c__law_draw (hr.mono (by omega)) rfl pass0 (pa_cons (pv 0) (pa_cons (pe_callB call_len_seq (by rfl) T.b_len (by decide +kernel) (pa_cons (pv 1) pa_nil)) pa_nil))) (fun _ _ => rfl)))), ?_⟩
   have npl : l ≠ p := hp.ne hl (fun _ z => by cases z)
   have h0 : 1 ≤ zs.length := by
     cases zs with
     | nil => exact absurd rfl hne
     | cons a r => simp
   refine ⟨_, rfl, _, rfl, _, rfl, l, _, rfl, .inl (.inl (.inl hl)), p, (zs.length : Int), by rw [List.length_map]; rfl, hp, by omega, by omega, fun r H' hr b p' => ?_⟩
   have hr : r < zs.length := by omega
   exact ⟨l, _, (r : Int), _, rfl, rfl, .inl (.inl (b _ _ hl npl)), atI_nat (by rw [List.getElem?_map, List.getElem?_eq_getElem hr]; rfl), k _ (List.getElem_mem hr) H' b p'⟩
end
end Op
set_option pp.maxSteps 700
namespace Op
open PySem L2 TL PyProof.Rows
def badAt (z : Str) : Option Nat := match Txt.split z "\n" with
 | [l0, l1] => if (tokV l0).isNone = true then some 0 else if (tokV l1).isNone = true then some 1 else none
 | _ => none
theorem badAt_ok {z : Str} (h : (badAt z).isSome = true) : ∃ (k : Nat) (l : Str), (Txt.split z "\n")[k]? = some l ∧ tokV l = none ∧ ∀ (j : Nat) l', j < k → (Txt.split z "\n")[j]? = some l' → tokV l' ≠ none := by
 unfold badAt at h
 revert h
 generalize Txt.split z "\n" = ls
 intro h
 match ls, h with
 | [], h => cases h
 | [_], h => cases h
 | _ :: _ :: _ :: _, h => cases h
 | [l0, l1], h =>
   dsimp only at h
   by_cases h0 : (tokV l0).isNone = true
   · exact ⟨0, l0, rfl, Option.isNone_iff_eq_none.mp h0, fun j l' hj => absurd hj (Nat.not_lt_zero _)⟩
   · rw [if_neg h0] at h
     by_cases h1 : (tokV l1).isNone = true
     · refine ⟨1, l1, rfl, Option.isNone_iff_eq_none.mp h1, fun j l' hj hl e => ?_⟩
       obtain rfl : j = 0 := by omega
       obtain rfl := Option.some.inj hl
       rw [e] at h0
       exact h0 rfl
     · rw [if_neg h1] at h
       cases h
def histT : Str := "begin go\n  set"
def signs : List Str := ["#", "0", "Z", "_", "~", "\t", "."]
def putS (n : Nat) (s : Str) : Str := (cutS histT none (some (n : Int)) ++ s) ++ cutS histT (some (n : Int)) none
theorem put_bad : ∀ n, n < 15 → ∀ s ∈ signs, (badAt (putS n s)).isSome = true := by decide +kernel
theorem put_lok : ∀ n, n < 15 → ∀ s ∈ signs, ((Txt.split (putS n s) "\n").length ≤ 90000 ∧ ∀ l ∈ Txt.split (putS n s) "\n", l.length ≤ 90000) ∧ (putS n s).length ≤ 100 := by decide +kernel
theorem nest_free : ∀ (ks : List Nat) (lv : Nat), ∀ z ∈ nestL lv ks, (10 : Nat) ∉ tl z
 | [], _, z, h => (List.not_mem_nil h).elim
 | k :: r, lv, z, h => by
   rcases List.mem_cons.mp h with rfl | h
   · rw [tl_append, tl_mul2]
     intro hm
     rcases List.mem_append.mp hm with hm | hm
     · have := List.eq_of_mem_replicate hm
       omega
     · revert hm
       unfold word3
       by_cases h0 : k = 0
       · rw [if_pos h0]; decide +kernel
       · rw [if_neg h0]
         by_cases h1 : k = 1
         · rw [if_pos h1]; decide +kernel
         · rw [if_neg h1]; decide +kernel
   · exact nest_free r (lv + 1) z h
theorem nestT_split (ks : List Nat) : Txt.split (Txt.join "\n" (nestT ks)) "\n" = nestT ks := by
 refine split_join (s := 10) (S := []) rfl (by decide +kernel) (by unfold nestT; exact List.cons_ne_nil _ _) fun z hz => ?_
 unfold nestT at hz
 rcases List.mem_cons.mp hz with rfl | hz
 · decide +kernel
 rcases List.mem_cons.mp hz with rfl | hz
 · decide +kernel
 exact nest_free ks 1 z hz
theorem nestT_lok {ks : List Nat} (hn : ks.length ≤ 2000) : LOk (nestT ks) := by
 refine ⟨by have : (nestT ks).length = ks.length + 2 := by { show (nestL 1 ks).length + 1 + 1 = _; rw [nestL_len] }
            omega, fun l hl => ?_⟩
 obtain ⟨i, hi⟩ := List.getElem?_of_mem hl
 have := nestT_len hn hi
 omega
end Op
set_option pp.maxSteps 700
namespace Op
open PySem L2 TL PyProof.Rows
theorem NoS.noP {K : PySem.W.Frag} {H : Hp} {v : V} (h : NoS K H v) : NoP K H v := by
 rcases h with ⟨d, h, _⟩ | ⟨p, o, h1, h2⟩
 · exact .inl ⟨d, h⟩
 · exact .inr ⟨p, o, h1, h2⟩
def okRes (r : Rs) : Bool := SeqAt.shaped (resD r) && PyData.eqv (resD r) (resD r)
theorem okRes_sh {r : Rs} (h : okRes r = true) : SeqAt.shaped (resD r) = true := (Bool.and_eq_true_iff.mp h).1
theorem okRes_eq {r : Rs} (h : okRes r = true) : (!PyData.eqv (resD r) (resD r)) = false := by rw [(Bool.and_eq_true_iff.mp h).2]; rfl
theorem nestR_ok (ks : List Nat) : okRes (nestR ks) = true := by
 unfold nestR
 by_cases h1 : 12 < ks.length
 · rw [if_pos h1]; decide +kernel
 · rw [if_neg h1]
   by_cases h2 : 4 < ks.length
   · rw [if_pos h2]; decide +kernel
   · rw [if_neg h2]; decide +kernel
def part3 (j : Nat) : Str := if j = 0 then "program" else "text"
theorem callOk3 {K : PySem.W.Frag} {H : Hp} {v : V} {j : Nat} (hj : j < 3) (h : NoS K H v) : CallOk K H (j : Int) v (.arg (part3 j)) := by
 rcases lt3 hj with rfl | rfl | rfl
 · exact .inl ⟨rfl, h.noP, rfl⟩
 · exact .inr (.inl ⟨rfl, h, rfl⟩)
 · exact .inr (.inr (.inr (.inl ⟨rfl, h, rfl⟩)))
section
variable {P : Program} {w : World} {K : PySem.W.Frag} {mg : Str → Option Value} {base : Heap} {pU pC CT CA CH pZ CL CP CI CR CN : Addr}
def spLaw (K : PySem.W.Frag) : Sp := fun vs H Q _ => ∃ (a : Addr) (ns : List Int), vs = [.ref a] ∧ SqL K H a (ns.map V.int) ∧ ns.length ≤ 63 ∧ ∀ H', Q (.bl true) H'
theorem sc_law : FnScope ["_law_script", "_law_pool_here", "_law_value", "_law_number", "_law_k", "_law_deep", "_law_lines", "_law_path", "_law_due", "_law_text", "_law_at", "_law_sign"] ["_law_script"] (defScope s_law) := ⟨rfl, rfl, rfl, by decide +kernel, rfl, by decide +kernel, by decide +kernel⟩
theorem ok_law {f : Addr} {fd : FuncData} {kb : Nat} (F : Fun K "law" "law" s_law f fd) (T : TxtX P w K mg pU pC CT CA pZ CH CI CR CN CP) (c__law_pool : Cal P w K mg base CX0 1 "_law_pool" ["_law_script", "_law_k"] (spPoolM K)) (c__law_draw : Cal P w K mg base CX0 1 "_law_draw" ["_law_pool_here", "_law_many"] spDp)
   (c__law_nested : Cal P w K mg base CX0 2 "_law_nested" ["_law_pool_here", "_law_deep"] (spNest K)) (c__law_nested_due : Cal P w K mg base CX0 1 "_law_nested_due" ["_law_lines", "_law_path", "_law_deep"] (spDueN K)) (c__law_item : Cal P w K mg base CX0 2 "_law_item" ["_law_pool_here", "_law_items"] spItemM)
   (c__law_call : Cal P w K mg base CX0 kb "_law_call" ["_law_number", "_law_value"] (spCall K)) (c_read_program : Cal P w K mg base (L2.CX P w) kb "read_program" ["text"] (spReadP K CT CA CP CI)) (hkb : 3 ≤ kb) : FnOk P w K mg base CX0 (kb + 1) f fd ["_law_script"] (spLaw K) := by
 refine F.ok sc_law (fun vs H Q E h => ?_) (fun cdv A outer s H vs Q E hr h => ?_)
 · obtain ⟨a, ns, rfl, _⟩ := h
   rfl
 · obtain ⟨a, ns, rfl, ha, hns, k⟩ := h
   refine ⟨_, (pss_cons (ps_set (i := 1) sc_law.nd rfl (.inl rfl) (pe_cal c__law_pool (hr.mono (by omega)) rfl pass0 (pa_cons (pv 0) (pa_cons pe_int pa_nil))))
     (pss_cons (ps_for PassesOwn.never rfl (pi_list (pe_lst (pa_cons pe_non (pa_cons pe_int (pa_cons pe_bl (pa_cons (pe_lst pa_nil) (pa_cons (pe_tup (pa_cons pe_str pa_nil)) (pa_cons pe_dnewK (pa_cons (pe_lst (pa_cons pe_str (pa_cons pe_str pa_nil))) pa_nil))))))))) (pg_name (i := 2) sc_law.nd rfl (.inl rfl)) (pss_one (ps_for PassesOwn.never rfl (pi_range1 (by rfl) T.b_range (pa_cons pe_int pa_nil)) (pg_name (i := 3) sc_law.nd rfl (.inl rfl)) (pss_one (ps_if (pt_cmpR (op_neD hr.units) (pe_cal c__law_call (hr.mono (by omega)) rfl pass0 (pa_cons (pv 3) (pa_cons (pv 2) pa_nil))) (pe_tup (pa_cons pe_str (pa_cons (pe_ix ix_list (pe_lst (pa_cons pe_str (pa_cons pe_str (pa_cons pe_str pa_nil)))) (pv 3) (fun _ _ => rfl)) (pa_cons pe_bl pa_nil)))) (nomark _)) (pss_one (ps_ret pe_bl)) pss_nil)))))
     (pss_cons (ps_if (pt_cmpR (op_neD hr.units) (pe_cal c__law_call (hr.mono (by omega)) rfl pass0 (pa_cons pe_int (pa_cons pe_str pa_nil))) (pe_tup (pa_cons pe_str (pa_cons pe_str (pa_cons pe_bl pa_nil)))) (nomark _)) (pss_one (ps_ret pe_bl)) pss_nil)
     (pss_cons (ps_for PassesOwn.never rfl (pi_list (pe_lst (pa_cons pe_non (pa_cons pe_str (pa_cons (pe_tup pa_nil) (pa_cons pe_dnewK (pa_cons pe_int (pa_cons (pe_tup (pa_cons (pe_tup (pa_cons pe_str (pa_cons pe_str pa_nil))) pa_nil)) pa_nil)))))))) (pg_name (i := 2) sc_law.nd rfl (.inl rfl)) (pss_one (ps_if (pt_cmpR (op_neD hr.units) (pe_cal c__law_call (hr.mono (by omega)) rfl pass0 (pa_cons pe_int (pa_cons (pv 2) pa_nil))) (pe_tup (pa_cons pe_str (pa_cons (pe_un un_neg pe_int) (pa_cons pe_bl pa_nil)))) (nomark _)) (pss_one (ps_ret pe_bl)) pss_nil)))
     (pss_cons (ps_if (PW.pt (pw_or (pt_cmpR (op_neD hr.units) (pe_cal c__law_call (hr.mono (by omega)) rfl pass0 (pa_cons pe_int (pa_cons (pe_lst pa_nil) pa_nil))) (pe_tup (pa_cons pe_str (pa_cons pe_int (pa_cons pe_bl pa_nil)))) (nomark _)) (pw_or1 (pt_cmpR (op_neD hr.units) (pe_cal c__law_call (hr.mono (by omega)) rfl pass0 (pa_cons pe_int (pa_cons pe_str pa_nil))) (pe_tup (pa_cons pe_str (pa_cons pe_int (pa_cons pe_bl pa_nil)))) (nomark _))))) (pss_one (ps_ret pe_bl)) pss_nil)
     (pss_cons (ps_if (PW.pt (pw_or (pt_cmpR (op_neD hr.units) (pe_cal c__law_call (hr.mono (by omega)) rfl pass0 (pa_cons pe_int (pa_cons pe_str pa_nil))) (pe_tup (pa_cons pe_str (pa_cons pe_int (pa_cons pe_bl pa_nil)))) (nomark _)) (pw_or1 (pt_cmpR (op_neD hr.units) (pe_cal c__law_call (hr.mono (by omega)) rfl pass0 (pa_cons pe_int (pa_cons pe_str pa_nil))) (pe_tup (pa_cons pe_str (pa_cons pe_int (pa_cons pe_bl pa_nil)))) (nomark _))))) (pss_one (ps_ret pe_bl)) pss_nil)
     (pss_cons (ps_for PassesOwn.never rfl (pi_range2 (by rfl) T.b_range (pa_cons pe_int (pa_cons pe_int pa_nil))) (pg_name (i := 4) sc_law.nd rfl (.inl rfl)) (pss_one (ps_if (pt_cmpR op_lt (pv 4) (pe_callB call_len_seq (by rfl) T.b_len (by decide +kernel) (pa_cons (pv 0) pa_nil)) (nomark _)) (pss_cons (ps_set (i := 1) sc_law.nd rfl (.inl rfl) (pe_cal c__law_pool (hr.mono (by omega)) rfl pass0 (pa_cons (pv 0) (pa_cons (pv 4) pa_nil))))
     (pss_cons (ps_set (i := 5) sc_law.nd rfl (.inl rfl) (pe_op op_add pe_int (pe_cal c__law_draw (hr.mono (by omega)) rfl pass0 (pa_cons (pv 1) (pa_cons pe_int pa_nil)))))
     (Evl.pss_cut (ps_if (PW.pt (pw_and (pt_cmpR op_eq (pv 4) pe_int (nomark _)) (pw_and1 (pt_cmpR op_eq (pe_cal c__law_draw (hr.mono (by omega)) rfl pass0 (pa_cons (pv 1) (pa_cons pe_int pa_nil))) pe_int (nomark _))))) (pss_one (ps_set (i := 5) sc_law.nd rfl (.inl rfl) pe_int)) pss_nil)
     (pss_cons (ps_asg (pe_cal c__law_nested (hr.mono (by omega)) rfl pass0 (pa_cons (pv 1) (pa_cons (pv 5) pa_nil))) (pg_tup rfl (pgs_cons (pg_name (i := 6) sc_law.nd rfl (.inl rfl)) (pgs_cons (pg_name (i := 7) sc_law.nd rfl (.inl rfl)) pgs_nil))))
     (pss_cons (ps_set (i := 8) sc_law.nd rfl (.inl rfl) (pe_cal c__law_nested_due (hr.mono (by omega)) rfl pass0 (pa_cons (pv 6) (pa_cons (pv 7) (pa_cons (pv 5) pa_nil)))))
     (pss_cons (ps_if (pt_cmpR (op_neD hr.units) (pe_cal c__law_call (hr.mono (by omega)) rfl pass0 (pa_cons pe_int (pa_cons (pe_join pe_str (pv 6)) pa_nil))) (pv 8) (nomark _)) (pss_one (ps_ret pe_bl)) pss_nil)
     (pss_cons (ps_set (i := 9) sc_law.nd rfl (.inl rfl) pe_str)
     (pss_cons (ps_set (i := 10) sc_law.nd rfl (.inl rfl) (pe_cal c__law_draw (hr.mono (by omega)) rfl pass0 (pa_cons (pv 1) (pa_cons (pe_op op_add (pe_callB call_len_str (by rfl) T.b_len (by decide +kernel) (pa_cons (pv 9) pa_nil)) pe_int) pa_nil))))
     (pss_cons (ps_set (i := 11) sc_law.nd rfl (.inl rfl) (pe_cal c__law_item (hr.mono (by omega)) rfl pass0 (pa_cons (pv 1) (pa_cons (pe_lst (pa_cons pe_str (pa_cons pe_str (pa_cons pe_str (pa_cons pe_str (pa_cons pe_str (pa_cons pe_str (pa_cons pe_str pa_nil)))))))) pa_nil))))
     (pss_one (ps_if (pt_cmpR op_ne (pe_ix ix_tup (pe_cal c__law_call (hr.mono (by omega)) rfl pass0 (pa_cons pe_int (pa_cons (pe_op op_add_str (pe_op op_add_str (pe_slice sl_str (pv 9) po_none (po_some (pv 10))) (pv 11)) (pe_slice sl_str (pv 9) (po_some (pv 10)) po_none)) pa_nil))) pe_int (fun _ _ => rfl)) pe_str (nomark _)) (pss_one (ps_ret pe_bl)) pss_nil))))))))))) pss_nil)))
     (pss_one (ps_ret (pe_callB call_isi (by rfl) T.b_isinstance (by decide +kernel) (pa_cons (pe_cal c_read_program (hr.mono (by omega)) rfl passF (pa_cons pe_str pa_nil)) (pa_cons (pe_gref rfl T.g_Program) pa_nil)))))))))))), ?_⟩
   refine ⟨_, rfl, a, ns, 0, rfl, ha, hns, fun p0 H1 np0 b1 p1 => ?_⟩
   refine ⟨Nat.zero_le _, fun a1 n1 => ⟨sz_lit (by show 1 ≤ 100000; decide), fun a2 n2 => ?_⟩⟩
   intro a3 n3
   refine ⟨sz_lit (by show 2 ≤ 100000; decide), fun a4 n4 => ⟨sz_lit (by show 7 ≤ 100000; decide), fun L nL => ?_⟩⟩
   have t1 := Same.new (o := .lst []) n1
   have t2 := Same.new (o := .tup [V.str "a"]) n2
   have t3 := Same.new (o := .dK []) n3
   have t4 := Same.new (o := .lst [V.str "inputs go", V.str "rows"]) n4
   have t5 := Same.new (o := .lst [V.non, V.int 5, V.bl true, V.ref a1, V.ref a2, V.ref a3, V.ref a4]) nL
   have hv : ∀ v ∈ [V.non, V.int 5, V.bl true, V.ref a1, V.ref a2, V.ref a3, V.ref a4], NoS K (upd (upd (upd (upd (upd H1 a1 (.lst [])) a2 (.tup [V.str "a"])) a3 (.dK [])) a4 (.lst [V.str "inputs go", V.str "rows"])) L (.lst [V.non, V.int 5, V.bl true, V.ref a1, V.ref a2, V.ref a3, V.ref a4])) v := fun v hm => by
     simp only [List.mem_cons, List.not_mem_nil, or_false] at hm
     rcases hm with rfl | rfl | rfl | rfl | rfl | rfl | rfl
     · exact .inl ⟨_, .non, rfl⟩
     · exact .inl ⟨_, .int 5, rfl⟩
     · exact .inl ⟨_, .bl true, rfl⟩
     · exact .inl ⟨_, .lst (.inl (.inl (t5 _ _ (t4 _ _ (t3 _ _ (t2 _ _ upd_same)))))) .nil, rfl⟩
     · exact .inl ⟨_, .tup (.inl (.inl (t5 _ _ (t4 _ _ (t3 _ _ upd_same))))) (.cons (.str _) .nil), rfl⟩
     · exact .inr ⟨a3, _, rfl, t5 _ _ (t4 _ _ upd_same)⟩
     · exact .inl ⟨_, .lst (.inl (.inl (t5 _ _ upd_same))) (.cons (.str _) (.cons (.str _) .nil)), rfl⟩
   have hL : upd (upd (upd (upd (upd H1 a1 (.lst [])) a2 (.tup [V.str "a"])) a3 (.dK [])) a4 (.lst [V.str "inputs go", V.str "rows"])) L (.lst [V.non, V.int 5, V.bl true, V.ref a1, V.ref a2, V.ref a3, V.ref a4]) L = some (.lst [V.non, V.int 5, V.bl true, V.ref a1, V.ref a2, V.ref a3, V.ref a4]) := upd_same
   have s1 : Same H1 (upd (upd (upd (upd (upd H1 a1 (.lst [])) a2 (.tup [V.str "a"])) a3 (.dK [])) a4 (.lst [V.str "inputs go", V.str "rows"])) L (.lst [V.non, V.int 5, V.bl true, V.ref a1, V.ref a2, V.ref a3, V.ref a4])) := (((t1.trans t2).trans t3).trans t4).trans t5
   clear t1 t2 t3 t4 t5 nL n4 n3 n2 n1
   revert hv hL s1
   generalize upd (upd (upd (upd (upd H1 a1 (.lst [])) a2 (.tup [V.str "a"])) a3 (.dK [])) a4 (.lst [V.str "inputs go", V.str "rows"])) L (.lst [V.non, V.int 5, V.bl true, V.ref a1, V.ref a2, V.ref a3, V.ref a4]) = H2
   generalize [V.non, V.int 5, V.bl true, V.ref a1, V.ref a2, V.ref a3, V.ref a4] = vals
   intro hv hL s1
   refine ⟨L, rfl, ⟨_, .inl (.inl hL)⟩, ?_⟩
   refine for_it (walk_list (xs := vals)) (fun i σ G => (∃ y2 y3 : Option V, σ = [some (.ref a), some (.ref p0), y2, y3, none, none, none, none, none, none, none, none]) ∧ Same H2 G) ⟨⟨_, _, rfl⟩, Same.refl H2⟩ (fun i σ G _ h => .inl (.inl (h.2 _ _ hL))) ?_ ?_
   · rintro i x σ G1 G hi ⟨⟨y2, y3, rfl⟩, sG⟩ ⟨rfl, hx⟩
     have hxs := (hv x (List.mem_of_getElem? hx)).mono sG
     refine ⟨(3 : Int), rfl, by decide, by decide, ?_⟩
     refine for_it (walk_range (lo := 0) (n := 3)) (fun j σ G' => (∃ y3 : Option V, σ = [some (.ref a), some (.ref p0), some x, y3, none, none, none, none, none, none, none, none]) ∧ Same H2 G') ⟨⟨_, rfl⟩, sG⟩ (fun _ _ _ _ _ => trivial) ?_ ?_
     · rintro j x' σ G2 G' hj ⟨⟨y3', rfl⟩, sG'⟩ ⟨rfl, rfl⟩
       show gName 3 (V.int (0 + (j : Int))) _ _ _
       rw [Int.zero_add]
       have hok : okRes (.arg (part3 j)) = true := by
         rcases lt3 hj with rfl | rfl | rfl <;> decide +kernel
       have hat : ([V.str "program", .str "text", .str "text"] : List V)[j]? = some (V.str (part3 j)) := by
         rcases lt3 hj with rfl | rfl | rfl <;> rfl
       refine ⟨_, rfl, _, rfl, (j : Int), x, .arg (part3 j), rfl, callOk3 hj ((hv x (List.mem_of_getElem? hx)).mono sG'), fun t G3 s3 dt => ⟨sz_lit (by show 3 ≤ 100000; decide), fun q nq => ⟨_, rfl, q, _, (j : Int), .str (part3 j), rfl, rfl, .inl (.inl upd_same), atI_nat hat, sz_lit (by show 3 ≤ 100000; decide), fun u nu => ?_⟩⟩⟩
       have s4 := (Same.new (o := .lst [V.str "program", .str "text", .str "text"]) nq).trans (Same.new (o := .tup [V.str "argument", .str (part3 j), .bl true]) nu)
       exact ⟨resD (.arg (part3 j)), resD (.arg (part3 j)), dt.mono s4, .tup (.inl (.inl upd_same)) (.cons (.str _) (.cons (.str _) (.cons (.bl _) .nil))), okRes_sh hok, okRes_sh hok, _, rfl, ifF (okRes_eq hok) ⟨⟨_, rfl⟩, (sG'.trans s3).trans s4⟩⟩
     · rintro σ G' ⟨⟨y3', rfl⟩, sG'⟩
       exact ⟨⟨_, _, rfl⟩, sG'⟩
   · rintro σ G ⟨⟨y2, y3, rfl⟩, sG⟩
     have hok1 : okRes (.arg "program") = true := by decide +kernel
     refine ⟨0, .str "inputs go\nrows", .arg "program", rfl, .inl ⟨rfl, .inl ⟨_, .str _⟩, rfl⟩, fun t G1 s2 dt => ⟨sz_lit (by show 3 ≤ 100000; decide), fun u nu => ?_⟩⟩
     have s3 : Same G1 (upd G1 u (.tup [V.str "argument", .str "program", .bl true])) := Same.new nu
     refine ⟨resD (.arg "program"), resD (.arg "program"), dt.mono s3, .tup (.inl (.inl upd_same)) (.cons (.str _) (.cons (.str _) (.cons (.bl _) .nil))), okRes_sh hok1, okRes_sh hok1, _, rfl, ifF (okRes_eq hok1) ?_⟩
     have sH := ((s1.trans sG).trans s2).trans s3
     revert sH
     generalize upd G1 u (.tup [V.str "argument", .str "program", .bl true]) = H3
     intro sH
     clear dt s3 s2 hL hv sG nu
     refine ⟨Nat.zero_le _, fun a5 n5 => ?_⟩
     intro a6 n6
     refine ⟨sz_lit (by show 2 ≤ 100000; decide), fun a7 n7 => ⟨sz_lit (by show 1 ≤ 100000; decide), fun a8 n8 => ⟨sz_lit (by show 6 ≤ 100000; decide), fun L2' nL => ?_⟩⟩⟩
     have t1 := Same.new (o := .tup []) n5
     have t2 := Same.new (o := .dK []) n6
     have t3 := Same.new (o := .tup [V.str "begin", V.str "go"]) n7
     have t4 := Same.new (o := .tup [V.ref a7]) n8
     have t5 := Same.new (o := .lst [V.non, V.str "begin go", V.ref a5, V.ref a6, V.int 5, V.ref a8]) nL
     have hv : ∀ v ∈ [V.non, V.str "begin go", V.ref a5, V.ref a6, V.int 5, V.ref a8], NL K (upd (upd (upd (upd (upd H3 a5 (.tup [])) a6 (.dK [])) a7 (.tup [V.str "begin", V.str "go"])) a8 (.tup [V.ref a7])) L2' (.lst [V.non, V.str "begin go", V.ref a5, V.ref a6, V.int 5, V.ref a8])) v := fun v hm => by
       simp only [List.mem_cons, List.not_mem_nil, or_false] at hm
       rcases hm with rfl | rfl | rfl | rfl | rfl | rfl
       · exact .inl ⟨_, .non, rfl⟩
       · exact .inl ⟨_, .str _, rfl⟩
       · exact .inl ⟨_, .tup (.inl (.inl (t5 _ _ (t4 _ _ (t3 _ _ (t2 _ _ upd_same)))))) .nil, rfl⟩
       · exact .inr ⟨a6, _, rfl, t5 _ _ (t4 _ _ (t3 _ _ upd_same))⟩
       · exact .inl ⟨_, .int 5, rfl⟩
       · exact .inl ⟨_, .tup (.inl (.inl (t5 _ _ upd_same))) (.cons (.tup (.inl (.inl (t5 _ _ (t4 _ _ upd_same)))) (.cons (.str _) (.cons (.str _) .nil))) .nil), rfl⟩
     have hL : (upd (upd (upd (upd (upd H3 a5 (.tup [])) a6 (.dK [])) a7 (.tup [V.str "begin", V.str "go"])) a8 (.tup [V.ref a7])) L2' (.lst [V.non, V.str "begin go", V.ref a5, V.ref a6, V.int 5, V.ref a8])) L2' = some (.lst [V.non, V.str "begin go", V.ref a5, V.ref a6, V.int 5, V.ref a8]) := upd_same
     have sH2 : Same H1 (upd (upd (upd (upd (upd H3 a5 (.tup [])) a6 (.dK [])) a7 (.tup [V.str "begin", V.str "go"])) a8 (.tup [V.ref a7])) L2' (.lst [V.non, V.str "begin go", V.ref a5, V.ref a6, V.int 5, V.ref a8])) := ((((sH.trans t1).trans t2).trans t3).trans t4).trans t5
     clear t1 t2 t3 t4 t5 nL n8 n7 n6 n5
     revert hv hL sH2
     generalize upd (upd (upd (upd (upd H3 a5 (.tup [])) a6 (.dK [])) a7 (.tup [V.str "begin", V.str "go"])) a8 (.tup [V.ref a7])) L2' (.lst [V.non, V.str "begin go", V.ref a5, V.ref a6, V.int 5, V.ref a8]) = H4
     generalize [V.non, V.str "begin go", V.ref a5, V.ref a6, V.int 5, V.ref a8] = vals2
     intro hv hL sH2
     refine ⟨L2', rfl, ⟨_, .inl (.inl hL)⟩, ?_⟩
     refine for_it (walk_list (xs := vals2)) (fun i σ G => (∃ y2 y3 : Option V, σ = [some (.ref a), some (.ref p0), y2, y3, none, none, none, none, none, none, none, none]) ∧ Same H4 G) ⟨⟨_, _, rfl⟩, Same.refl H4⟩ (fun i σ G _ h => .inl (.inl (h.2 _ _ hL))) ?_ ?_
     · rintro i x σ G1 G hi ⟨⟨y2, y3, rfl⟩, sG⟩ ⟨rfl, hx⟩
       have hok : okRes (.hist (-1)) = true := by decide +kernel
       refine ⟨_, rfl, 3, x, .hist (-1), rfl, .inr (.inr (.inr (.inr (.inr ⟨rfl, -1, .inr ⟨(hv x (List.mem_of_getElem? hx)).mono sG, rfl⟩, rfl⟩)))), fun t G3 s3 dt => ⟨1, rfl, sz_lit (by show 3 ≤ 100000; decide), fun u nu => ?_⟩⟩
       have s4 : Same G3 (upd G3 u (.tup [V.str "history", .int (-1), .bl true])) := Same.new nu
       exact ⟨resD (.hist (-1)), resD (.hist (-1)), dt.mono s4, .tup (.inl (.inl upd_same)) (.cons (.str _) (.cons (.int _) (.cons (.bl _) .nil))), okRes_sh hok, okRes_sh hok, _, rfl, ifF (okRes_eq hok) ⟨⟨_, _, rfl⟩, (sG.trans s3).trans s4⟩⟩
     · rintro σ G ⟨⟨y2, y3, rfl⟩, sG⟩
       have sG2 := sH2.trans sG
       clear hv hL sG sH sH2
       have hh0 : okRes (.hist 0) = true := by decide +kernel
       have hl1 : okRes (.line 1) = true := by decide +kernel
       have hl2 : okRes (.line 2) = true := by decide +kernel
       have lo : LOk (Txt.split "" "\n") := ⟨by decide +kernel, by decide +kernel⟩
       have lo2 : LOk (Txt.split "inputs go" "\n") := ⟨by decide +kernel, by decide +kernel⟩
       refine ⟨Nat.zero_le _, fun l nl => ⟨3, .ref l, .hist 0, rfl, .inr (.inr (.inr (.inr (.inr ⟨rfl, 0, .inl ⟨l, [], [], [], rfl, upd_same, .nil, fun d hd => (List.not_mem_nil hd).elim, .nil, Nat.zero_le _, .inl ⟨0, rfl, rfl⟩⟩, rfl⟩)))), fun t G3 s3 dt => ⟨sz_lit (by show 3 ≤ 100000; decide), fun u nu => ?_⟩⟩⟩
       have s4 : Same G3 (upd G3 u (.tup [V.str "history", .int 0, .bl true])) := Same.new nu
       refine ⟨resD (.hist 0), resD (.hist 0), dt.mono s4, .tup (.inl (.inl upd_same)) (.cons (.str _) (.cons (.int _) (.cons (.bl _) .nil))), okRes_sh hh0, okRes_sh hh0, _, rfl, ifF (okRes_eq hh0) ?_⟩
       have sG3 := ((sG2.trans (Same.new (o := .lst []) nl)).trans s3).trans s4
       revert sG3
       generalize upd G3 u (.tup [V.str "history", .int 0, .bl true]) = H5
       intro sG3
       clear dt s4 s3 nu
       refine ⟨1, .str "", .line 1, rfl, .inr (.inr (.inl ⟨rfl, "", 10, rfl, by decide, lo, by decide, by kernel_rfl⟩)), fun t2 G4 s5 dt2 => ⟨sz_lit (by show 3 ≤ 100000; decide), fun u2 nu2 => ?_⟩⟩
       have s6 : Same G4 (upd G4 u2 (.tup [V.str "line", .int 1, .bl true])) := Same.new nu2
       refine ⟨resD (.line 1), resD (.line 1), dt2.mono s6, .tup (.inl (.inl upd_same)) (.cons (.str _) (.cons (.int _) (.cons (.bl _) .nil))), okRes_sh hl1, okRes_sh hl1, _, rfl, ifF (okRes_eq hl1) ?_⟩
       have sG4 := (sG3.trans s5).trans s6
       revert sG4
       generalize upd G4 u2 (.tup [V.str "line", .int 1, .bl true]) = H6
       intro sG4
       clear dt2 s6 s5 nu2
       refine ⟨2, .str "", .line 1, rfl, .inr (.inr (.inr (.inr (.inl ⟨rfl, "", 0, "", rfl, by decide, lo, by decide +kernel, by kernel_rfl, fun j l' hj => absurd hj (Nat.not_lt_zero _), rfl⟩)))), fun t G7 s5 dt2 => ⟨sz_lit (by show 3 ≤ 100000; decide), fun u3 nu2 => ?_⟩⟩
       have s6 : Same G7 (upd G7 u3 (.tup [V.str "line", .int 1, .bl true])) := Same.new nu2
       refine ⟨resD (.line 1), resD (.line 1), dt2.mono s6, .tup (.inl (.inl upd_same)) (.cons (.str _) (.cons (.int _) (.cons (.bl _) .nil))), okRes_sh hl1, okRes_sh hl1, _, rfl, ifF (okRes_eq hl1) ?_⟩
       have sG7 := (sG4.trans s5).trans s6
       revert sG7
       generalize upd G7 u3 (.tup [V.str "line", .int 1, .bl true]) = H7
       intro sG7
       clear dt2 s6 s5 nu2
       refine ⟨1, .str "inputs go", .line 2, rfl, .inr (.inr (.inl ⟨rfl, "inputs go", 10, rfl, by decide, lo2, by decide, by kernel_rfl⟩)), fun t2 G8 s5 dt2 => ⟨sz_lit (by show 3 ≤ 100000; decide), fun u4 nu2 => ?_⟩⟩
       have s6 : Same G8 (upd G8 u4 (.tup [V.str "line", .int 2, .bl true])) := Same.new nu2
       refine ⟨resD (.line 2), resD (.line 2), dt2.mono s6, .tup (.inl (.inl upd_same)) (.cons (.str _) (.cons (.int _) (.cons (.bl _) .nil))), okRes_sh hl2, okRes_sh hl2, _, rfl, ifF (okRes_eq hl2) ?_⟩
       have sG8 := (sG7.trans s5).trans s6
       revert sG8
       generalize upd G8 u4 (.tup [V.str "line", .int 2, .bl true]) = H8
       intro sG8
       clear dt2 s6 s5 nu2
       have s0 : Same H H1 := fun c o h => b1 c o h fun e => by rw [e, np0] at h; cases h
       have ha8 := ha.mono (s0.trans sG8)
       clear sG8 sG7 sG4 sG3 sG2 s1
       refine ⟨1, 9, rfl, ⟨by decide, by decide, by decide, by decide⟩, ?_⟩
       refine for_it (walk_range (lo := 1) (n := 8)) (fun i σ G => (∃ y1 y2 y3 y4 y5 y6 y7 y8 y9 y10 y11 : Option V, σ = [some (.ref a), y1, y2, y3, y4, y5, y6, y7, y8, y9, y10, y11]) ∧ SqL K G a (ns.map V.int)) ⟨⟨_, _, _, _, _, _, _, _, _, _, _, rfl⟩, ha8⟩ (fun _ _ _ _ _ => trivial) ?_ ?_
       · rintro i x σ G1 G hi ⟨⟨y1, y2, y3, y4, y5, y6, y7, y8, y9, y10, y11, rfl⟩, haG⟩ ⟨rfl, rfl⟩
         show gName 4 (V.int (1 + (i : Int))) _ _ _
         refine ⟨_, rfl, _, rfl, a, _, rfl, .inl haG, _, _, rfl, rfl, _, rfl, ?_⟩
         by_cases hlt : ¬ (1 + (i : Int)) < ((ns.map V.int).length : Int)
         · exact ifF (decide_eq_false hlt) ⟨⟨_, _, _, _, _, _, _, _, _, _, _, rfl⟩, haG⟩
         refine ifT (decide_eq_true (Decidable.not_not.mp hlt)) ⟨_, rfl, _, rfl, a, ns, 1 + i, rfl, haG, hns, fun p G2 np b2 p2 => ?_⟩
         have k2 : Same G G2 := fun c o h => b2 c o h fun e => by rw [e, np] at h; cases h
         have haG2 := haG.mono k2
         refine ⟨_, rfl, p, 30, rfl, p2, by decide, by decide, fun r G3 hr b3 p3 => ⟨_, _, rfl, rfl, ?_⟩⟩
         have haG3 := haG2.kp (p2.kp b3)
         refine ⟨fun σ G4 => ∃ n : Nat, σ = [some (.ref a), some (.ref p), y2, y3, some (.int (1 + (i : Int))), some (.int (n : Int)), y6, y7, y8, y9, y10, y11] ∧ n ≤ 2000 ∧ Pp G4 p ∧ SqL K G4 a (ns.map V.int), ?_, ?_⟩
         · have hdef : ∃ n : Nat, [some (V.ref a), some (.ref p), y2, y3, some (.int (1 + (i : Int))), some (.int (1 + (r : Int))), y6, y7, y8, y9, y10, y11] = [some (V.ref a), some (.ref p), y2, y3, some (.int (1 + (i : Int))), some (.int (n : Int)), y6, y7, y8, y9, y10, y11] ∧ n ≤ 2000 ∧ Pp G3 p ∧ SqL K G3 a (ns.map V.int) := ⟨1 + r, rfl, by omega, p3, haG3⟩
           refine ⟨_, rfl, rfl, _, rfl, ?_⟩
           by_cases h1 : V.int (1 + (i : Int)) = V.int 1
           · refine ifT (decide_eq_true h1) ⟨_, rfl, p, 3, rfl, p3, by decide, by decide, fun r2 G4 hr2 b4 p4 => ⟨rfl, _, rfl, ?_⟩⟩
             have haG4 := haG3.kp (p3.kp b4)
             by_cases h2 : V.int (r2 : Int) = V.int 0
             · exact ifT (decide_eq_true h2) ⟨1500, rfl, by decide, p4, haG4⟩
             · exact ifF (decide_eq_false h2) ⟨1 + r, rfl, by omega, p4, haG4⟩
           · exact ifF (decide_eq_false h1) hdef
         · rintro σ G4 ⟨n, rfl, hn, p4, haG4⟩
           refine ⟨_, rfl, _, rfl, p, n, rfl, p4, hn, fun t l u ks G5 hkl hk3 b5 p5 ht hl hu => ⟨t, _, rfl, ht, rfl, _, _, rfl, _, _, rfl, rfl, ?_⟩⟩
           have haG5 := haG4.kp (p4.kp b5)
           subst hkl
           refine ⟨_, rfl, _, rfl, _, rfl, l, u, ks, rfl, hn, hl, hu, fun dt G6 s6 dd => ?_⟩
           have hread : readR (2 * ks.length + 30) (Txt.split (Txt.join "\n" (nestT ks)) "\n") = some (nestR ks) := by
             rw [nestT_split]
             exact nest_readR hk3 (Nat.le_refl _)
           have hnl : (nestT ks).length = ks.length + 2 := by show (nestL 1 ks).length + 1 + 1 = _; rw [nestL_len]
           have hsum : ((nestT ks).map (·.length)).sum ≤ 4100 * (nestT ks).length := by
             have key : ∀ zs : List Str, (∀ z ∈ zs, z.length ≤ 4100) → (zs.map (·.length)).sum ≤ 4100 * zs.length := by
               intro zs
               induction zs with
               | nil => intro _; exact Nat.le_refl _
               | cons z r ih =>
                 intro h
                 have h1 := ih fun y hy => h y (List.mem_cons_of_mem _ hy)
                 have h2 := h z List.mem_cons_self
                 rw [List.map_cons, List.sum_cons, List.length_cons]
                 omega
             exact key _ fun z hz => by
               obtain ⟨j, hj⟩ := List.getElem?_of_mem hz
               exact nestT_len hn hj
           have hjl := joinS_len "\n" (nestT ks)
           rw [show ("\n" : Str).length = 1 from rfl] at hjl
           have hlok : LOk (Txt.split (Txt.join "\n" (nestT ks)) "\n") := by rw [nestT_split]; exact nestT_lok hn
           have hok := nestR_ok ks
           have p6 := p5.mono s6
           have haG6 := haG5.mono s6
           refine ⟨⟨_, rfl⟩, _, rfl, "\n", l, nestT ks, rfl, rfl, .inl (.inl (.inl (s6 _ _ hl))), by rw [show ("\n" : Str).length = 1 from rfl]; omega, 1, .str (Txt.join "\n" (nestT ks)), nestR ks, rfl, .inr (.inr (.inl ⟨rfl, _, 2 * ks.length + 30, rfl, by rw [sizeLine_eq]; omega, hlok, by omega, hread⟩)), fun t2 G7 s7 dt2 => ⟨_, rfl, resD (nestR ks), resD (nestR ks), dt2, dd.mono s7, okRes_sh hok, okRes_sh hok, _, rfl, ifF (okRes_eq hok) ?_⟩⟩
           have p7 := p6.mono s7
           have haG7 := haG6.mono s7
           refine ⟨_, rfl, _, rfl, histT, rfl, by decide, _, _, rfl, rfl, p, 15, rfl, p7, by decide, by decide, fun r2 G8 hr2 b8 p8 => ?_⟩
           have haG8 := haG7.kp (p7.kp b8)
           refine ⟨_, rfl, sz_lit (by show 7 ≤ 100000; decide), fun q nq => ⟨p, q, signs, rfl, p8.mono (Same.new nq), upd_same, by decide, by decide, fun sg hsg G9 b9 p9 => ?_⟩⟩
           have haG9 := (haG8.mono (Same.new (o := .lst (signs.map V.str)) nq)).kp ((p8.mono (Same.new nq)).kp b9)
           obtain ⟨kk, l0, e1, e2, e3⟩ := badAt_ok (put_bad r2 (by omega) sg hsg)
           obtain ⟨⟨z1, z2⟩, z3⟩ := put_lok r2 (by omega) sg hsg
           have z4 : ((cutS histT none (some (r2 : Int)) ++ sg) ++ cutS histT (some (r2 : Int)) none).length ≤ 100 := z3
           have z5 := z4
           rw [PySem.Str.length_append, PySem.Str.length_append] at z5
           refine ⟨_, rfl, _, rfl, _, rfl, histT, rfl, by decide, _, rfl, _, _, rfl, rfl, by rw [sizeLine_eq]; omega, _, rfl, _, rfl, _, rfl, histT, rfl, by decide, _, _, rfl, rfl, by rw [PySem.Str.length_append, sizeLine_eq]; omega, 2, .str (putS r2 sg), .line (kk + 1), rfl, .inr (.inr (.inr (.inr (.inl ⟨rfl, _, kk, l0, rfl, by rw [sizeLine_eq]; omega, ⟨z1, z2⟩, e1, e2, e3, rfl⟩)))), fun t3 G10 s10 dt3 => ?_⟩
           have dt3 : Dp K G10 t3 (.tuple [.str "line", .int ((kk + 1 : Nat) : Int), .bool true]) := dt3
           cases dt3 with
           | tup hq hall =>
             cases hall with
             | cons h1 hrest =>
               cases h1
               exact ⟨_, _, 0, _, rfl, rfl, hq, atI_zero _ _, rfl, _, rfl, ifF (by decide +kernel) ⟨⟨_, _, _, _, _, _, _, _, _, _, _, rfl⟩, haG9.mono s10⟩⟩
       · rintro σ G ⟨⟨y1, y2, y3, y4, y5, y6, y7, y8, y9, y10, y11, rfl⟩, haG⟩
         have lo3 : LOk (Txt.split "inputs go\nrows" "\n") := ⟨by decide +kernel, by decide +kernel⟩
         have hs : Txt.split "inputs go\nrows" "\n" = nestT [] := by decide +kernel
         refine .inr ⟨"inputs go\nrows", 30, rfl, by decide, lo3, by decide, ?_⟩
         rw [hs, nest_read (ks := []) (by decide), if_pos (by decide)]
         obtain ⟨c, hc⟩ := nest_ok [] (fun _ h => (List.not_mem_nil h).elim) (by decide)
         refine ⟨by show wts [] ≤ 29000; rw [wts_nil]; exact Nat.zero_le _, fun part path he => ?_, fun _ p dx fs H' s' np hp => ?_⟩
         · have he : chkN [] = .error (part, path) := he
           rw [hc] at he
           cases he
         · exact ⟨.ref p, .ref CP, .ref CP, .ref CP, true, rfl, .own CP, .base (.ins hp T.pi.cls T.pi.ha T.pi.hn T.pi.ht T.pi.hm), kit_self, k _⟩
end
end Op
namespace Op
open PySem L2 PyProof.Rows PySem.XL
theorem vals_app : ∀ {vs ws : List V} {us zs : List Value}, Vals vs us → Vals ws zs → Vals (vs ++ ws) (us ++ zs)
 | _, _, _, _, .nil, h => h
 | _, _, _, _, .cons a b, h => .cons a (vals_app b h)
section
variable {P : Program} {w : World} {K : PySem.W.Frag} {mg : Str → Option Value} {base : Heap} {pU pC CT CA pZ CL : Addr}
theorem lr_blocks {fr fb : Addr} {fdr fdb : FuncData} (Fr : Fun K "row" "LineReader.row" s_LineReader_row fr fdr) (Fb : Fun K "block" "LineReader.block" s_LineReader_block fb fdb) (T : TxtI P w K mg pU pC CT CA pZ) (lc : LrC K CL) (c_row_form : Cal P w K mg base CX0 3 "row_form" ["words"] (spRowF K)) (m_peek : Mcal P w K mg base (L2.CX P w) 2 CL "peek" ["self"] (spPeek K CL CT)) (m_expect : Mcal P w K mg base (L2.CX P w) 3 CL "expect" ["self", "level", "word"] (spExp K CL CT))
   (Mr : Meth K CL "row" fr) (Mb : Meth K CL "block" fb) (br : Binds K fdr ["self", "level", "words"] []) (bb : Binds K fdb ["self", "level"] []) : ∀ n, Mcal P w K mg base (L2.CX P w) (4 + 2 * n) CL "block" ["self", "level"] (spBlk K CL CT n)
 | 0 => ⟨fb, fdb, Mb, bb, ok_lblock (k := 3) (n := 0) (sr := fun _ _ _ _ => False) (fun h => absurd h (by decide)) Fb T lc (Nat.le_refl _) c_row_form m_peek ⟨fr, fdr, Mr, br, ⟨fun vs H Q E h => h.elim, fun A outer s H args us vs Q E _ _ _ _ h => h.elim⟩⟩⟩
 | n + 1 => ⟨fb, fdb, Mb, bb, ok_lblock (k := 4 + 2 * n + 1) (n := n + 1) (sr := spRowL K CL CT (n + 1)) (fun _ => rfl) Fb T lc (by omega) c_row_form m_peek ⟨fr, fdr, Mr, br, ok_lrow (k := 4 + 2 * n) (n := n) Fr T lc (by omega) m_peek m_expect (lr_blocks Fr Fb T lc c_row_form m_peek m_expect Mr Mb br bb n)⟩⟩
end
theorem exm_own {K : PySem.W.Frag} {C : Addr} (hb : PySem.W.subIn K (.ref C) (.type "BaseException") = some true) (hi : PySem.W.isClsIn K C = true) (ht : PySem.W.typeIn K (.ref C) = some (.type "type")) (hs : PySem.W.subIn K (.ref C) (.ref C) = some true) : PySem.W.exmOne K (.ref C) (.ref C) = some true := by
 unfold PySem.W.exmOne
 rw [hb, if_pos (by simp)]
 have hi' : (PySem.W.clsIn K C).isSome = true := hi
 show (if ((PySem.W.clsIn K C).isSome && PySem.W.typeIn K (.ref C) == some (.type "type")) = true then PySem.W.subIn K (.ref C) (.ref C) else none) = some true
 rw [hi', ht, if_pos (by simp)]
 exact hs
theorem kit_own {K : PySem.W.Frag} {t : Value} {C : Addr} {b : Bool} (hn : (t == Value.ref C) = false) (hi : PySem.W.isClsIn K C = true) (ht : PySem.W.typeIn K (.ref C) = some (.type "type")) (hs : PySem.W.subIn K t (.ref C) = some b) : PySem.W.kitOne K t (.ref C) = some b := by
 unfold PySem.W.kitOne
 rw [hn, if_neg Bool.false_ne_true]
 unfold PySem.W.kitCls
 have hi' : (PySem.W.clsIn K C).isSome = true := hi
 simp [ht, hi', hs]
theorem exm_two {K : PySem.W.Frag} {C D : Addr} {b : Bool} (hb : PySem.W.subIn K (.ref D) (.type "BaseException") = some true) (hi : PySem.W.isClsIn K D = true) (ht : PySem.W.typeIn K (.ref D) = some (.type "type")) (hs : PySem.W.subIn K (.ref C) (.ref D) = some b) : PySem.W.exmOne K (.ref C) (.ref D) = some b := by
 unfold PySem.W.exmOne
 rw [hb, if_pos (by simp)]
 have hi' : (PySem.W.clsIn K D).isSome = true := hi
 show (if ((PySem.W.clsIn K D).isSome && PySem.W.typeIn K (.ref D) == some (.type "type")) = true then PySem.W.subIn K (.ref C) (.ref D) else none) = some b
 rw [hi', ht, if_pos (by simp)]
 exact hs
theorem Sh_InvalidProgram : ∃ (Ps : Ps2) (a1 a2 a3 : Pos), defArgs s_InvalidProgram___init__ = args2 a1 a2 a3 "part" "path" ∧ defBody s_InvalidProgram___init__ = body2 Ps "invalid program" "part" "path" ∧ defScope s_InvalidProgram___init__ = scope2 "part" "path" ∧ ∀ fI, EvOk "InvalidProgram.__init__" (scope2 "part" "path") fI Ps.toPs1 "invalid program" :=
 ⟨⟨⟨_, _, _, _, _, _, _, _, _, _, _⟩, _, _, _, _⟩, _, _, _, rfl, rfl, rfl, fun fI L cda cc => ⟨_, rfl, rfl, rfl⟩⟩
theorem Xm_InvalidProgram {P : Program} {w : World} {K : PySem.W.Frag} {C fI : Addr} (T : XCls P K C) (Fn : XFn P K C fI "InvalidProgram.__init__" (defArgs s_InvalidProgram___init__) (defBody s_InvalidProgram___init__) (defScope s_InvalidProgram___init__)) (nof : PySem.W.findIn K (.ref C) "part" = some none) (nof2 : PySem.W.findIn K (.ref C) "path" = some none) :
   XMk P w K C 2 [] (fun vs _ => [("path", vs.getD 1 .non), ("part", vs.getD 0 .non)]) ∧ XMk P w K C 0 ["path", "part"] (fun _ zs => [("path", zs.getD 0 .non), ("part", zs.getD 1 .non)]) := by
 obtain ⟨Ps, a1, a2, a3, e1, e2, e3, ev⟩ := Sh_InvalidProgram
 rw [e1, e2, e3] at Fn
 exact ⟨xmk2 T Fn (by decide +kernel) (by decide +kernel) (by decide +kernel) nof nof2 (ev fI) fun s x v v2 kV doc pm an cdv ct cc => .of_eq rfl, xmk2k T Fn (by decide +kernel) (by decide +kernel) (by decide +kernel) nof nof2 (ev fI) fun s x v v2 kV doc pm an cdv ct cc => .of_eq rfl⟩
theorem Sh_InvalidHistory : ∃ (Ps : Ps1) (a1 a2 : Pos), defArgs s_InvalidHistory___init__ = args1 a1 a2 "at" ∧ defBody s_InvalidHistory___init__ = body1 Ps "invalid history" "at" ∧ defScope s_InvalidHistory___init__ = scope1 "at" ∧ ∀ fI, EvOk "InvalidHistory.__init__" (scope1 "at") fI Ps "invalid history" :=
 ⟨⟨_, _, _, _, _, _, _, _, _, _, _⟩, _, _, rfl, rfl, rfl, fun fI L cda cc => ⟨_, rfl, rfl, rfl⟩⟩
theorem Xm_InvalidHistory {P : Program} {w : World} {K : PySem.W.Frag} {C fI : Addr} (T : XCls P K C) (Fn : XFn P K C fI "InvalidHistory.__init__" (defArgs s_InvalidHistory___init__) (defBody s_InvalidHistory___init__) (defScope s_InvalidHistory___init__)) (nof : PySem.W.findIn K (.ref C) "at" = some none) :
   XMk P w K C 1 [] (fun vs _ => [("at", vs.headD .non)]) ∧ XMk P w K C 0 ["at"] (fun _ zs => [("at", zs.headD .non)]) := by
 obtain ⟨Ps, a1, a2, e1, e2, e3, ev⟩ := Sh_InvalidHistory
 rw [e1, e2, e3] at Fn
 exact ⟨xmk1 T Fn (by decide +kernel) nof (ev fI) fun s x v kV doc pm an cdv ct cc => .of_eq rfl, xmk1k T Fn (by decide +kernel) nof (ev fI) fun s x v kV doc pm an cdv ct cc => .of_eq rfl⟩
theorem Sh_InvalidText : ∃ (Ps : Ps1) (a1 a2 : Pos), defArgs s_InvalidText___init__ = args1 a1 a2 "line" ∧ defBody s_InvalidText___init__ = body1 Ps "invalid text" "line" ∧ defScope s_InvalidText___init__ = scope1 "line" ∧ ∀ fI, EvOk "InvalidText.__init__" (scope1 "line") fI Ps "invalid text" :=
 ⟨⟨_, _, _, _, _, _, _, _, _, _, _⟩, _, _, rfl, rfl, rfl, fun fI L cda cc => ⟨_, rfl, rfl, rfl⟩⟩
theorem Xm_InvalidText {P : Program} {w : World} {K : PySem.W.Frag} {C fI : Addr} (T : XCls P K C) (Fn : XFn P K C fI "InvalidText.__init__" (defArgs s_InvalidText___init__) (defBody s_InvalidText___init__) (defScope s_InvalidText___init__)) (nof : PySem.W.findIn K (.ref C) "line" = some none) :
   XMk P w K C 1 [] (fun vs _ => [("line", vs.headD .non)]) ∧ XMk P w K C 0 ["line"] (fun _ zs => [("line", zs.headD .non)]) := by
 obtain ⟨Ps, a1, a2, e1, e2, e3, ev⟩ := Sh_InvalidText
 rw [e1, e2, e3] at Fn
 exact ⟨xmk1 T Fn (by decide +kernel) nof (ev fI) fun s x v kV doc pm an cdv ct cc => .of_eq rfl, xmk1k T Fn (by decide +kernel) nof (ev fI) fun s x v kV doc pm an cdv ct cc => .of_eq rfl⟩
theorem Sh_InvalidArgument : ∃ (Ps : Ps1) (a1 a2 : Pos), defArgs s_InvalidArgument___init__ = args1 a1 a2 "part" ∧ defBody s_InvalidArgument___init__ = body1 Ps "invalid argument" "part" ∧ defScope s_InvalidArgument___init__ = scope1 "part" ∧ ∀ fI, EvOk "InvalidArgument.__init__" (scope1 "part") fI Ps "invalid argument" :=
 ⟨⟨_, _, _, _, _, _, _, _, _, _, _⟩, _, _, rfl, rfl, rfl, fun fI L cda cc => ⟨_, rfl, rfl, rfl⟩⟩
theorem Xm_InvalidArgument {P : Program} {w : World} {K : PySem.W.Frag} {C fI : Addr} (T : XCls P K C) (Fn : XFn P K C fI "InvalidArgument.__init__" (defArgs s_InvalidArgument___init__) (defBody s_InvalidArgument___init__) (defScope s_InvalidArgument___init__)) (nof : PySem.W.findIn K (.ref C) "part" = some none) :
   XMk P w K C 1 [] (fun vs _ => [("part", vs.headD .non)]) ∧ XMk P w K C 0 ["part"] (fun _ zs => [("part", zs.headD .non)]) := by
 obtain ⟨Ps, a1, a2, e1, e2, e3, ev⟩ := Sh_InvalidArgument
 rw [e1, e2, e3] at Fn
 exact ⟨xmk1 T Fn (by decide +kernel) nof (ev fI) fun s x v kV doc pm an cdv ct cc => .of_eq rfl, xmk1k T Fn (by decide +kernel) nof (ev fI) fun s x v kV doc pm an cdv ct cc => .of_eq rfl⟩
theorem all_mk {w : World} {K : PySem.W.Frag} {h : Heap} {mg : Str → Option Value} {fa p_SHAPES p_FORMS p_OUTER_PARTS p_COMMAND_PARTS p_SIZES p_OUTER p_NUMBERED p_LAST c_InputError c_OpenError c_RunError c_InvalidProgram i_InvalidProgram c_InvalidHistory i_InvalidHistory c_InvalidText i_InvalidText c_InvalidArgument i_InvalidArgument g_is_integer g_is_word g_are_words g_is_branches g_inner_lists g_with_lists g_copy_row g_copy_rows g_checked_asks g_is_box g_checked_signals g_checked_inputs g_has_form g_is_outer g_suits_things g_enter_token g_check_tokens g_split_turns g_check g_check_program g_program_text g_line_parts g_row_form g_all_words g_read_program g_history_text g_number_like g_token_of g_read_history g__law_pool g__law_draw g__law_item g__law_call g__law_nested g__law_nested_due g_law c_RowCheck m_RowCheck___init__ m_RowCheck_check m_RowCheck_check_sizes m_RowCheck_check_list m_RowCheck_fits m_RowCheck_id_fits m_RowCheck_part_fits m_RowCheck_collect c_Program m_Program___init__ m_Program_add_rows c_LineReader m_LineReader___init__ m_LineReader_peek m_LineReader_expect m_LineReader_head m_LineReader_inputs_line m_LineReader_block m_LineReader_row : Addr} (X : K.In h) (G : h.Ns mainGlobals mg) (hfa : mg "law" = some (.ref fa))
   {tk_LETTERS : Tok}
   {tk_DIGITS : Tok}
   {tk_MOST_ROWS : Tok}
   {tk_MOST_LABELS : Tok}
   {tk_MOST_SLOTS : Tok}
   {tk_MOST_GATES : Tok}
   {tk_MOST_EDITS : Tok}
   {tk_DEEPEST_checks : Tok}
   {tk_DEEPEST_texts : Tok}
   {es_SHAPES : Array DictEntry} {en_SHAPES : Nat}
   {es_FORMS : Array DictEntry} {en_FORMS : Nat}
   {es_OUTER_PARTS : Array DictEntry} {en_OUTER_PARTS : Nat}
   {es_COMMAND_PARTS : Array DictEntry} {en_COMMAND_PARTS : Nat}
   {es_SIZES : Array DictEntry} {en_SIZES : Nat}
   {d_OUTER : Option Addr} {n_OUTER : Nat} {s_OUTER : Array (Option Value)} {t0_OUTER t1_OUTER t2_OUTER t3_OUTER : Tok}
   {d_NUMBERED : Option Addr} {n_NUMBERED : Nat} {s_NUMBERED : Array (Option Value)} {t0_NUMBERED t1_NUMBERED t2_NUMBERED : Tok}
   {d_LAST : Option Addr} {n_LAST : Nat} {s_LAST : Array (Option Value)} {t0_LAST t1_LAST : Tok}
   {nm_InvalidProgram q_InvalidProgram : Str} {N_InvalidProgram : Addr} {bs_InvalidProgram : List Value} {sn_InvalidProgram : List Str} {sub_InvalidProgram : List Value} {ab_InvalidProgram : Bool} {col_InvalidProgram : Option Bool} {dd_InvalidProgram : Option Addr} {ka_InvalidProgram kb_InvalidProgram kc_InvalidProgram kd_InvalidProgram ke_InvalidProgram : Option Value}
   {oc_InvalidProgram kV_InvalidProgram dc_InvalidProgram pm_InvalidProgram ct_InvalidProgram ccl_InvalidProgram cll_InvalidProgram : Value} {od_InvalidProgram an_InvalidProgram cdd_InvalidProgram cld_InvalidProgram : Option Addr} {cd_InvalidProgram cc_InvalidProgram : Addr} {sl_InvalidProgram ccs_InvalidProgram csl_InvalidProgram : Array (Option Value)} {vs_InvalidProgram : Array Value} {fl_InvalidProgram : Str} {tf_InvalidProgram : Tok}
   {nm_InvalidHistory q_InvalidHistory : Str} {N_InvalidHistory : Addr} {bs_InvalidHistory : List Value} {sn_InvalidHistory : List Str} {sub_InvalidHistory : List Value} {ab_InvalidHistory : Bool} {col_InvalidHistory : Option Bool} {dd_InvalidHistory : Option Addr} {ka_InvalidHistory kb_InvalidHistory kc_InvalidHistory kd_InvalidHistory ke_InvalidHistory : Option Value}
   {oc_InvalidHistory kV_InvalidHistory dc_InvalidHistory pm_InvalidHistory ct_InvalidHistory ccl_InvalidHistory cll_InvalidHistory : Value} {od_InvalidHistory an_InvalidHistory cdd_InvalidHistory cld_InvalidHistory : Option Addr} {cd_InvalidHistory cc_InvalidHistory : Addr} {sl_InvalidHistory ccs_InvalidHistory csl_InvalidHistory : Array (Option Value)} {vs_InvalidHistory : Array Value} {fl_InvalidHistory : Str} {tf_InvalidHistory : Tok}
   {nm_InvalidText q_InvalidText : Str} {N_InvalidText : Addr} {bs_InvalidText : List Value} {sn_InvalidText : List Str} {sub_InvalidText : List Value} {ab_InvalidText : Bool} {col_InvalidText : Option Bool} {dd_InvalidText : Option Addr} {ka_InvalidText kb_InvalidText kc_InvalidText kd_InvalidText ke_InvalidText : Option Value}
   {oc_InvalidText kV_InvalidText dc_InvalidText pm_InvalidText ct_InvalidText ccl_InvalidText cll_InvalidText : Value} {od_InvalidText an_InvalidText cdd_InvalidText cld_InvalidText : Option Addr} {cd_InvalidText cc_InvalidText : Addr} {sl_InvalidText ccs_InvalidText csl_InvalidText : Array (Option Value)} {vs_InvalidText : Array Value} {fl_InvalidText : Str} {tf_InvalidText : Tok}
   {nm_InvalidArgument q_InvalidArgument : Str} {N_InvalidArgument : Addr} {bs_InvalidArgument : List Value} {sn_InvalidArgument : List Str} {sub_InvalidArgument : List Value} {ab_InvalidArgument : Bool} {col_InvalidArgument : Option Bool} {dd_InvalidArgument : Option Addr} {ka_InvalidArgument kb_InvalidArgument kc_InvalidArgument kd_InvalidArgument ke_InvalidArgument : Option Value}
   {oc_InvalidArgument kV_InvalidArgument dc_InvalidArgument pm_InvalidArgument ct_InvalidArgument ccl_InvalidArgument cll_InvalidArgument : Value} {od_InvalidArgument an_InvalidArgument cdd_InvalidArgument cld_InvalidArgument : Option Addr} {cd_InvalidArgument cc_InvalidArgument : Addr} {sl_InvalidArgument ccs_InvalidArgument csl_InvalidArgument : Array (Option Value)} {vs_InvalidArgument : Array Value} {fl_InvalidArgument : Str} {tf_InvalidArgument : Tok}
   {xo_is_integer xk_is_integer xc_is_integer xp_is_integer xe_is_integer xt_is_integer : Value} {xd_is_integer xa_is_integer : Option Addr} {xs_is_integer : Array (Option Value)}
   {xo_is_word xk_is_word xc_is_word xp_is_word xe_is_word xt_is_word : Value} {xd_is_word xa_is_word : Option Addr} {xs_is_word : Array (Option Value)}
   {xo_are_words xk_are_words xc_are_words xp_are_words xe_are_words xt_are_words : Value} {xd_are_words xa_are_words : Option Addr} {xs_are_words : Array (Option Value)}
   {xo_is_branches xk_is_branches xc_is_branches xp_is_branches xe_is_branches xt_is_branches : Value} {xd_is_branches xa_is_branches : Option Addr} {xs_is_branches : Array (Option Value)}
   {xo_inner_lists xk_inner_lists xc_inner_lists xp_inner_lists xe_inner_lists xt_inner_lists : Value} {xd_inner_lists xa_inner_lists : Option Addr} {xs_inner_lists : Array (Option Value)}
   {xo_with_lists xk_with_lists xc_with_lists xp_with_lists xe_with_lists xt_with_lists : Value} {xd_with_lists xa_with_lists : Option Addr} {xs_with_lists : Array (Option Value)}
   {xo_copy_row xk_copy_row xc_copy_row xp_copy_row xe_copy_row xt_copy_row : Value} {xd_copy_row xa_copy_row : Option Addr} {xs_copy_row : Array (Option Value)}
   {xo_copy_rows xk_copy_rows xc_copy_rows xp_copy_rows xe_copy_rows xt_copy_rows : Value} {xd_copy_rows xa_copy_rows : Option Addr} {xs_copy_rows : Array (Option Value)}
   {xo_checked_asks xk_checked_asks xc_checked_asks xp_checked_asks xe_checked_asks xt_checked_asks : Value} {xd_checked_asks xa_checked_asks : Option Addr} {xs_checked_asks : Array (Option Value)}
   {xo_is_box xk_is_box xc_is_box xp_is_box xe_is_box xt_is_box : Value} {xd_is_box xa_is_box : Option Addr} {xs_is_box : Array (Option Value)}
   {xo_checked_signals xk_checked_signals xc_checked_signals xp_checked_signals xe_checked_signals xt_checked_signals : Value} {xd_checked_signals xa_checked_signals : Option Addr} {xs_checked_signals : Array (Option Value)}
   {xo_checked_inputs xk_checked_inputs xc_checked_inputs xp_checked_inputs xe_checked_inputs xt_checked_inputs : Value} {xd_checked_inputs xa_checked_inputs : Option Addr} {xs_checked_inputs : Array (Option Value)}
   {xo_has_form xk_has_form xc_has_form xp_has_form xe_has_form xt_has_form : Value} {xd_has_form xa_has_form : Option Addr} {xs_has_form : Array (Option Value)}
   {xo_is_outer xk_is_outer xc_is_outer xp_is_outer xe_is_outer xt_is_outer : Value} {xd_is_outer xa_is_outer : Option Addr} {xs_is_outer : Array (Option Value)}
   {xo_suits_things xk_suits_things xc_suits_things xp_suits_things xe_suits_things xt_suits_things : Value} {xd_suits_things xa_suits_things : Option Addr} {xs_suits_things : Array (Option Value)}
   {xo_enter_token xk_enter_token xc_enter_token xp_enter_token xe_enter_token xt_enter_token : Value} {xd_enter_token xa_enter_token : Option Addr} {xs_enter_token : Array (Option Value)}
   {xo_check_tokens xk_check_tokens xc_check_tokens xp_check_tokens xe_check_tokens xt_check_tokens : Value} {xd_check_tokens xa_check_tokens : Option Addr} {xs_check_tokens : Array (Option Value)}
   {xo_split_turns xk_split_turns xc_split_turns xp_split_turns xe_split_turns xt_split_turns : Value} {xd_split_turns xa_split_turns : Option Addr} {xs_split_turns : Array (Option Value)}
   {xo_check xk_check xc_check xp_check xe_check xt_check : Value} {xd_check xa_check : Option Addr} {xs_check : Array (Option Value)}
   {xo_check_program xk_check_program xc_check_program xp_check_program xe_check_program xt_check_program : Value} {xd_check_program xa_check_program : Option Addr} {xs_check_program : Array (Option Value)}
   {xo_program_text xk_program_text xc_program_text xp_program_text xe_program_text xt_program_text : Value} {xd_program_text xa_program_text : Option Addr} {xs_program_text : Array (Option Value)}
   {xo_line_parts xk_line_parts xc_line_parts xp_line_parts xe_line_parts xt_line_parts : Value} {xd_line_parts xa_line_parts : Option Addr} {xs_line_parts : Array (Option Value)}
   {xo_row_form xk_row_form xc_row_form xp_row_form xe_row_form xt_row_form : Value} {xd_row_form xa_row_form : Option Addr} {xs_row_form : Array (Option Value)}
   {xo_all_words xk_all_words xc_all_words xp_all_words xe_all_words xt_all_words : Value} {xd_all_words xa_all_words : Option Addr} {xs_all_words : Array (Option Value)}
   {xo_read_program xk_read_program xc_read_program xp_read_program xe_read_program xt_read_program : Value} {xd_read_program xa_read_program : Option Addr} {xs_read_program : Array (Option Value)}
   {xo_history_text xk_history_text xc_history_text xp_history_text xe_history_text xt_history_text : Value} {xd_history_text xa_history_text : Option Addr} {xs_history_text : Array (Option Value)}
   {xo_number_like xk_number_like xc_number_like xp_number_like xe_number_like xt_number_like : Value} {xd_number_like xa_number_like : Option Addr} {xs_number_like : Array (Option Value)}
   {xo_token_of xk_token_of xc_token_of xp_token_of xe_token_of xt_token_of : Value} {xd_token_of xa_token_of : Option Addr} {xs_token_of : Array (Option Value)}
   {xo_read_history xk_read_history xc_read_history xp_read_history xe_read_history xt_read_history : Value} {xd_read_history xa_read_history : Option Addr} {xs_read_history : Array (Option Value)}
   {xo__law_pool xk__law_pool xc__law_pool xp__law_pool xe__law_pool xt__law_pool : Value} {xd__law_pool xa__law_pool : Option Addr} {xs__law_pool : Array (Option Value)}
   {xo__law_draw xk__law_draw xc__law_draw xp__law_draw xe__law_draw xt__law_draw : Value} {xd__law_draw xa__law_draw : Option Addr} {xs__law_draw : Array (Option Value)}
   {xo__law_item xk__law_item xc__law_item xp__law_item xe__law_item xt__law_item : Value} {xd__law_item xa__law_item : Option Addr} {xs__law_item : Array (Option Value)}
   {xo__law_call xk__law_call xc__law_call xp__law_call xe__law_call xt__law_call : Value} {xd__law_call xa__law_call : Option Addr} {xs__law_call : Array (Option Value)}
   {xo__law_nested xk__law_nested xc__law_nested xp__law_nested xe__law_nested xt__law_nested : Value} {xd__law_nested xa__law_nested : Option Addr} {xs__law_nested : Array (Option Value)}
   {xo__law_nested_due xk__law_nested_due xc__law_nested_due xp__law_nested_due xe__law_nested_due xt__law_nested_due : Value} {xd__law_nested_due xa__law_nested_due : Option Addr} {xs__law_nested_due : Array (Option Value)}
   {xo_law xk_law xc_law xp_law xe_law xt_law : Value} {xd_law xa_law : Option Addr} {xs_law : Array (Option Value)}
   {xo_RowCheck___init__ xk_RowCheck___init__ xc_RowCheck___init__ xp_RowCheck___init__ xe_RowCheck___init__ xt_RowCheck___init__ : Value} {xd_RowCheck___init__ xa_RowCheck___init__ : Option Addr} {xs_RowCheck___init__ : Array (Option Value)}
   {xo_RowCheck_check xk_RowCheck_check xc_RowCheck_check xp_RowCheck_check xe_RowCheck_check xt_RowCheck_check : Value} {xd_RowCheck_check xa_RowCheck_check : Option Addr} {xs_RowCheck_check : Array (Option Value)}
   {xo_RowCheck_check_sizes xk_RowCheck_check_sizes xc_RowCheck_check_sizes xp_RowCheck_check_sizes xe_RowCheck_check_sizes xt_RowCheck_check_sizes : Value} {xd_RowCheck_check_sizes xa_RowCheck_check_sizes : Option Addr} {xs_RowCheck_check_sizes : Array (Option Value)}
   {xo_RowCheck_check_list xk_RowCheck_check_list xc_RowCheck_check_list xp_RowCheck_check_list xe_RowCheck_check_list xt_RowCheck_check_list : Value} {xd_RowCheck_check_list xa_RowCheck_check_list : Option Addr} {xs_RowCheck_check_list : Array (Option Value)}
   {xo_RowCheck_fits xk_RowCheck_fits xc_RowCheck_fits xp_RowCheck_fits xe_RowCheck_fits xt_RowCheck_fits : Value} {xd_RowCheck_fits xa_RowCheck_fits : Option Addr} {xs_RowCheck_fits : Array (Option Value)}
   {xo_RowCheck_id_fits xk_RowCheck_id_fits xc_RowCheck_id_fits xp_RowCheck_id_fits xe_RowCheck_id_fits xt_RowCheck_id_fits : Value} {xd_RowCheck_id_fits xa_RowCheck_id_fits : Option Addr} {xs_RowCheck_id_fits : Array (Option Value)}
   {xo_RowCheck_part_fits xk_RowCheck_part_fits xc_RowCheck_part_fits xp_RowCheck_part_fits xe_RowCheck_part_fits xt_RowCheck_part_fits : Value} {xd_RowCheck_part_fits xa_RowCheck_part_fits : Option Addr} {xs_RowCheck_part_fits : Array (Option Value)}
   {xo_RowCheck_collect xk_RowCheck_collect xc_RowCheck_collect xp_RowCheck_collect xe_RowCheck_collect xt_RowCheck_collect : Value} {xd_RowCheck_collect xa_RowCheck_collect : Option Addr} {xs_RowCheck_collect : Array (Option Value)}
   {xo_Program___init__ xk_Program___init__ xc_Program___init__ xp_Program___init__ xe_Program___init__ xt_Program___init__ : Value} {xd_Program___init__ xa_Program___init__ : Option Addr} {xs_Program___init__ : Array (Option Value)}
   {xo_Program_add_rows xk_Program_add_rows xc_Program_add_rows xp_Program_add_rows xe_Program_add_rows xt_Program_add_rows : Value} {xd_Program_add_rows xa_Program_add_rows : Option Addr} {xs_Program_add_rows : Array (Option Value)}
   {xo_LineReader___init__ xk_LineReader___init__ xc_LineReader___init__ xp_LineReader___init__ xe_LineReader___init__ xt_LineReader___init__ : Value} {xd_LineReader___init__ xa_LineReader___init__ : Option Addr} {xs_LineReader___init__ : Array (Option Value)}
   {xo_LineReader_peek xk_LineReader_peek xc_LineReader_peek xp_LineReader_peek xe_LineReader_peek xt_LineReader_peek : Value} {xd_LineReader_peek xa_LineReader_peek : Option Addr} {xs_LineReader_peek : Array (Option Value)}
   {xo_LineReader_expect xk_LineReader_expect xc_LineReader_expect xp_LineReader_expect xe_LineReader_expect xt_LineReader_expect : Value} {xd_LineReader_expect xa_LineReader_expect : Option Addr} {xs_LineReader_expect : Array (Option Value)}
   {xo_LineReader_head xk_LineReader_head xc_LineReader_head xp_LineReader_head xe_LineReader_head xt_LineReader_head : Value} {xd_LineReader_head xa_LineReader_head : Option Addr} {xs_LineReader_head : Array (Option Value)}
   {xo_LineReader_inputs_line xk_LineReader_inputs_line xc_LineReader_inputs_line xp_LineReader_inputs_line xe_LineReader_inputs_line xt_LineReader_inputs_line : Value} {xd_LineReader_inputs_line xa_LineReader_inputs_line : Option Addr} {xs_LineReader_inputs_line : Array (Option Value)}
   {xo_LineReader_block xk_LineReader_block xc_LineReader_block xp_LineReader_block xe_LineReader_block xt_LineReader_block : Value} {xd_LineReader_block xa_LineReader_block : Option Addr} {xs_LineReader_block : Array (Option Value)}
   {xo_LineReader_row xk_LineReader_row xc_LineReader_row xp_LineReader_row xe_LineReader_row xt_LineReader_row : Value} {xd_LineReader_row xa_LineReader_row : Option Addr} {xs_LineReader_row : Array (Option Value)}
   (z_len : PySem.W.nsIn K mainGlobals "len" = some none)
   (z_int : PySem.W.nsIn K mainGlobals "int" = some none)
   (z_bool : PySem.W.nsIn K mainGlobals "bool" = some none)
   (z_str : PySem.W.nsIn K mainGlobals "str" = some none)
   (z_list : PySem.W.nsIn K mainGlobals "list" = some none)
   (z_tuple : PySem.W.nsIn K mainGlobals "tuple" = some none)
   (z_dict : PySem.W.nsIn K mainGlobals "dict" = some none)
   (z_set : PySem.W.nsIn K mainGlobals "set" = some none)
   (z_range : PySem.W.nsIn K mainGlobals "range" = some none)
   (z_zip : PySem.W.nsIn K mainGlobals "zip" = some none)
   (z_enumerate : PySem.W.nsIn K mainGlobals "enumerate" = some none)
   (z_sorted : PySem.W.nsIn K mainGlobals "sorted" = some none)
   (z_isinstance : PySem.W.nsIn K mainGlobals "isinstance" = some none)
   (z_LETTERS : PySem.W.nsIn K mainGlobals "LETTERS" = some (some (.str "abcdefghijklmnopqrstuvwxyz" tk_LETTERS)))
   (z_DIGITS : PySem.W.nsIn K mainGlobals "DIGITS" = some (some (.str "0123456789" tk_DIGITS)))
   (z_MOST_ROWS : PySem.W.nsIn K mainGlobals "MOST_ROWS" = some (some (.int 60 tk_MOST_ROWS)))
   (z_MOST_LABELS : PySem.W.nsIn K mainGlobals "MOST_LABELS" = some (some (.int 6 tk_MOST_LABELS)))
   (z_MOST_SLOTS : PySem.W.nsIn K mainGlobals "MOST_SLOTS" = some (some (.int 4 tk_MOST_SLOTS)))
   (z_MOST_GATES : PySem.W.nsIn K mainGlobals "MOST_GATES" = some (some (.int 8 tk_MOST_GATES)))
   (z_MOST_EDITS : PySem.W.nsIn K mainGlobals "MOST_EDITS" = some (some (.int 4 tk_MOST_EDITS)))
   (z_DEEPEST_checks : PySem.W.nsIn K mainGlobals "DEEPEST_checks" = some (some (.int 5 tk_DEEPEST_checks)))
   (z_DEEPEST_texts : PySem.W.nsIn K mainGlobals "DEEPEST_texts" = some (some (.int 12 tk_DEEPEST_texts)))
   (A_SHAPES : PySem.W.nsIn K mainGlobals "SHAPES" = some (some (.ref p_SHAPES)))
   (L_SHAPES : K.lookup p_SHAPES = some ⟨.type "dict", none, .dict es_SHAPES en_SHAPES, #[]⟩)
   (E_SHAPES : Ents w.params es_SHAPES.toList (shapes.map fun p => (p.1, V.str p.2)))
   (S_SHAPES : (p_SHAPES == sysModules) = false)
   (A_FORMS : PySem.W.nsIn K mainGlobals "FORMS" = some (some (.ref p_FORMS)))
   (L_FORMS : K.lookup p_FORMS = some ⟨.type "dict", none, .dict es_FORMS en_FORMS, #[]⟩)
   (E_FORMS : Ents w.params es_FORMS.toList (forms.map fun p => (p.1, V.str p.2)))
   (S_FORMS : (p_FORMS == sysModules) = false)
   (A_OUTER_PARTS : PySem.W.nsIn K mainGlobals "OUTER_PARTS" = some (some (.ref p_OUTER_PARTS)))
   (L_OUTER_PARTS : K.lookup p_OUTER_PARTS = some ⟨.type "dict", none, .dict es_OUTER_PARTS en_OUTER_PARTS, #[]⟩)
   (E_OUTER_PARTS : Ents w.params es_OUTER_PARTS.toList (outP.map fun p => (p.1, V.str p.2)))
   (S_OUTER_PARTS : (p_OUTER_PARTS == sysModules) = false)
   (A_COMMAND_PARTS : PySem.W.nsIn K mainGlobals "COMMAND_PARTS" = some (some (.ref p_COMMAND_PARTS)))
   (L_COMMAND_PARTS : K.lookup p_COMMAND_PARTS = some ⟨.type "dict", none, .dict es_COMMAND_PARTS en_COMMAND_PARTS, #[]⟩)
   (E_COMMAND_PARTS : Ents w.params es_COMMAND_PARTS.toList (cmdP.map fun p => (p.1, V.str p.2)))
   (S_COMMAND_PARTS : (p_COMMAND_PARTS == sysModules) = false)
   (A_SIZES : PySem.W.nsIn K mainGlobals "SIZES" = some (some (.ref p_SIZES)))
   (L_SIZES : K.lookup p_SIZES = some ⟨.type "dict", none, .dict es_SIZES en_SIZES, #[]⟩)
   (E_SIZES : Ents w.params es_SIZES.toList (sizesP.map fun p => (p.1, V.int p.2)))
   (S_SIZES : (p_SIZES == sysModules) = false)
   (A_OUTER : PySem.W.nsIn K mainGlobals "OUTER" = some (some (.ref p_OUTER)))
   (L_OUTER : K.lookup p_OUTER = some ⟨.type "tuple", d_OUTER, .seq #[.str "begin" t0_OUTER, .str "answer" t1_OUTER, .str "rang" t2_OUTER, .str "signal" t3_OUTER] n_OUTER, s_OUTER⟩)
   (A_NUMBERED : PySem.W.nsIn K mainGlobals "NUMBERED" = some (some (.ref p_NUMBERED)))
   (L_NUMBERED : K.lookup p_NUMBERED = some ⟨.type "tuple", d_NUMBERED, .seq #[.str "answer" t0_NUMBERED, .str "rang" t1_NUMBERED, .str "dropped" t2_NUMBERED] n_NUMBERED, s_NUMBERED⟩)
   (A_LAST : PySem.W.nsIn K mainGlobals "LAST" = some (some (.ref p_LAST)))
   (L_LAST : K.lookup p_LAST = some ⟨.type "tuple", d_LAST, .seq #[.str "ended" t0_LAST, .str "anew" t1_LAST] n_LAST, s_LAST⟩)
   (opq : PySem.W.nsIn K cStatics "thirdparty.any" = some none)
   (sg : PySem.W.nsIn K mainGlobals "super" = some none)
   (A_InputError : PySem.W.nsIn K mainGlobals "InputError" = some (some (.ref c_InputError)))
   (A_OpenError : PySem.W.nsIn K mainGlobals "OpenError" = some (some (.ref c_OpenError)))
   (A_RunError : PySem.W.nsIn K mainGlobals "RunError" = some (some (.ref c_RunError)))
   (A_InvalidProgram : PySem.W.nsIn K mainGlobals "InvalidProgram" = some (some (.ref c_InvalidProgram)))
   (l_InvalidProgram : K.lookup c_InvalidProgram = some (excClassObj nm_InvalidProgram q_InvalidProgram c_InvalidProgram N_InvalidProgram bs_InvalidProgram [.ref c_InputError, .ref c_OpenError, .type "LookupError", .type "Exception", .type "BaseException", .type "object"] true sn_InvalidProgram sub_InvalidProgram ab_InvalidProgram col_InvalidProgram dd_InvalidProgram ka_InvalidProgram kb_InvalidProgram kc_InvalidProgram kd_InvalidProgram ke_InvalidProgram "LookupError.__new__"))
   (sa_InvalidProgram : PySem.W.findIn K (.ref c_InvalidProgram) "__setattr__" = some (some (.builtin "object.__setattr__")))
   (su_InvalidProgram : PySem.W.ks_superIn K c_InvalidProgram c_InvalidProgram "__init__" = some (some (.builtin "LookupError.__init__")))
   (ii_InvalidProgram : PySem.W.findIn K (.ref c_InvalidProgram) "__init__" = some (some (.ref i_InvalidProgram)))
   (ti_InvalidProgram : PySem.W.typeIn K (.ref i_InvalidProgram) = some (.type "function"))
   (lf_InvalidProgram : K.lookup i_InvalidProgram = some ⟨oc_InvalidProgram, od_InvalidProgram, .func (PySem.W.ksFn "__init__" "InvalidProgram.__init__" (defArgs s_InvalidProgram___init__) (defBody s_InvalidProgram___init__) (defScope s_InvalidProgram___init__) .none kV_InvalidProgram dc_InvalidProgram pm_InvalidProgram an_InvalidProgram (.ref cd_InvalidProgram) ct_InvalidProgram cc_InvalidProgram), sl_InvalidProgram⟩)
   (cf_InvalidProgram : PySem.W.codeIn K (.ref cd_InvalidProgram) "InvalidProgram.__init__" = true)
   (lc_InvalidProgram : K.lookup cc_InvalidProgram = some ⟨cll_InvalidProgram, cld_InvalidProgram, .cell (some (.ref c_InvalidProgram)), csl_InvalidProgram⟩)
   (ld_InvalidProgram : K.lookup cd_InvalidProgram = some ⟨ccl_InvalidProgram, cdd_InvalidProgram, .fields vs_InvalidProgram, ccs_InvalidProgram⟩)
   (v2_InvalidProgram : vs_InvalidProgram[2]? = some (.str fl_InvalidProgram tf_InvalidProgram))
   (fe_InvalidProgram : ((PP.main.file : Str) == fl_InvalidProgram) = true)
   (kp_InvalidProgram : PySem.W.keepIn K (.ref c_InvalidProgram) = true)
   (hg_InvalidProgram : PySem.W.findIn K (.ref c_InvalidProgram) "__getattribute__" = some (some (.builtin "BaseException.__getattribute__")))
   (hk_InvalidProgram : PySem.W.findIn K (.ref c_InvalidProgram) "__getattr__" = some none)
   (hs_InvalidProgram : PySem.W.subIn K (.ref c_InvalidProgram) (.type "BaseException") = some true)
   (hd_InvalidProgram : PySem.W.hasDictIn K c_InvalidProgram = true)
   (ty_InvalidProgram : PySem.W.typeIn K (.ref c_InvalidProgram) = some (.type "type"))
   (ic_InvalidProgram : PySem.W.isClsIn K c_InvalidProgram = true)
   (ss_InvalidProgram : PySem.W.subIn K (.ref c_InvalidProgram) (.ref c_InvalidProgram) = some true)
   (no_part_InvalidProgram : PySem.W.findIn K (.ref c_InvalidProgram) "part" = some none)
   (no_path_InvalidProgram : PySem.W.findIn K (.ref c_InvalidProgram) "path" = some none)
   (A_InvalidHistory : PySem.W.nsIn K mainGlobals "InvalidHistory" = some (some (.ref c_InvalidHistory)))
   (l_InvalidHistory : K.lookup c_InvalidHistory = some (excClassObj nm_InvalidHistory q_InvalidHistory c_InvalidHistory N_InvalidHistory bs_InvalidHistory [.ref c_InputError, .ref c_OpenError, .type "LookupError", .type "Exception", .type "BaseException", .type "object"] true sn_InvalidHistory sub_InvalidHistory ab_InvalidHistory col_InvalidHistory dd_InvalidHistory ka_InvalidHistory kb_InvalidHistory kc_InvalidHistory kd_InvalidHistory ke_InvalidHistory "LookupError.__new__"))
   (sa_InvalidHistory : PySem.W.findIn K (.ref c_InvalidHistory) "__setattr__" = some (some (.builtin "object.__setattr__")))
   (su_InvalidHistory : PySem.W.ks_superIn K c_InvalidHistory c_InvalidHistory "__init__" = some (some (.builtin "LookupError.__init__")))
   (ii_InvalidHistory : PySem.W.findIn K (.ref c_InvalidHistory) "__init__" = some (some (.ref i_InvalidHistory)))
   (ti_InvalidHistory : PySem.W.typeIn K (.ref i_InvalidHistory) = some (.type "function"))
   (lf_InvalidHistory : K.lookup i_InvalidHistory = some ⟨oc_InvalidHistory, od_InvalidHistory, .func (PySem.W.ksFn "__init__" "InvalidHistory.__init__" (defArgs s_InvalidHistory___init__) (defBody s_InvalidHistory___init__) (defScope s_InvalidHistory___init__) .none kV_InvalidHistory dc_InvalidHistory pm_InvalidHistory an_InvalidHistory (.ref cd_InvalidHistory) ct_InvalidHistory cc_InvalidHistory), sl_InvalidHistory⟩)
   (cf_InvalidHistory : PySem.W.codeIn K (.ref cd_InvalidHistory) "InvalidHistory.__init__" = true)
   (lc_InvalidHistory : K.lookup cc_InvalidHistory = some ⟨cll_InvalidHistory, cld_InvalidHistory, .cell (some (.ref c_InvalidHistory)), csl_InvalidHistory⟩)
   (ld_InvalidHistory : K.lookup cd_InvalidHistory = some ⟨ccl_InvalidHistory, cdd_InvalidHistory, .fields vs_InvalidHistory, ccs_InvalidHistory⟩)
   (v2_InvalidHistory : vs_InvalidHistory[2]? = some (.str fl_InvalidHistory tf_InvalidHistory))
   (fe_InvalidHistory : ((PP.main.file : Str) == fl_InvalidHistory) = true)
   (kp_InvalidHistory : PySem.W.keepIn K (.ref c_InvalidHistory) = true)
   (hg_InvalidHistory : PySem.W.findIn K (.ref c_InvalidHistory) "__getattribute__" = some (some (.builtin "BaseException.__getattribute__")))
   (hk_InvalidHistory : PySem.W.findIn K (.ref c_InvalidHistory) "__getattr__" = some none)
   (hs_InvalidHistory : PySem.W.subIn K (.ref c_InvalidHistory) (.type "BaseException") = some true)
   (hd_InvalidHistory : PySem.W.hasDictIn K c_InvalidHistory = true)
   (ty_InvalidHistory : PySem.W.typeIn K (.ref c_InvalidHistory) = some (.type "type"))
   (ic_InvalidHistory : PySem.W.isClsIn K c_InvalidHistory = true)
   (ss_InvalidHistory : PySem.W.subIn K (.ref c_InvalidHistory) (.ref c_InvalidHistory) = some true)
   (no_at_InvalidHistory : PySem.W.findIn K (.ref c_InvalidHistory) "at" = some none)
   (A_InvalidText : PySem.W.nsIn K mainGlobals "InvalidText" = some (some (.ref c_InvalidText)))
   (l_InvalidText : K.lookup c_InvalidText = some (excClassObj nm_InvalidText q_InvalidText c_InvalidText N_InvalidText bs_InvalidText [.ref c_InputError, .ref c_OpenError, .type "LookupError", .type "Exception", .type "BaseException", .type "object"] true sn_InvalidText sub_InvalidText ab_InvalidText col_InvalidText dd_InvalidText ka_InvalidText kb_InvalidText kc_InvalidText kd_InvalidText ke_InvalidText "LookupError.__new__"))
   (sa_InvalidText : PySem.W.findIn K (.ref c_InvalidText) "__setattr__" = some (some (.builtin "object.__setattr__")))
   (su_InvalidText : PySem.W.ks_superIn K c_InvalidText c_InvalidText "__init__" = some (some (.builtin "LookupError.__init__")))
   (ii_InvalidText : PySem.W.findIn K (.ref c_InvalidText) "__init__" = some (some (.ref i_InvalidText)))
   (ti_InvalidText : PySem.W.typeIn K (.ref i_InvalidText) = some (.type "function"))
   (lf_InvalidText : K.lookup i_InvalidText = some ⟨oc_InvalidText, od_InvalidText, .func (PySem.W.ksFn "__init__" "InvalidText.__init__" (defArgs s_InvalidText___init__) (defBody s_InvalidText___init__) (defScope s_InvalidText___init__) .none kV_InvalidText dc_InvalidText pm_InvalidText an_InvalidText (.ref cd_InvalidText) ct_InvalidText cc_InvalidText), sl_InvalidText⟩)
   (cf_InvalidText : PySem.W.codeIn K (.ref cd_InvalidText) "InvalidText.__init__" = true)
   (lc_InvalidText : K.lookup cc_InvalidText = some ⟨cll_InvalidText, cld_InvalidText, .cell (some (.ref c_InvalidText)), csl_InvalidText⟩)
   (ld_InvalidText : K.lookup cd_InvalidText = some ⟨ccl_InvalidText, cdd_InvalidText, .fields vs_InvalidText, ccs_InvalidText⟩)
   (v2_InvalidText : vs_InvalidText[2]? = some (.str fl_InvalidText tf_InvalidText))
   (fe_InvalidText : ((PP.main.file : Str) == fl_InvalidText) = true)
   (kp_InvalidText : PySem.W.keepIn K (.ref c_InvalidText) = true)
   (hg_InvalidText : PySem.W.findIn K (.ref c_InvalidText) "__getattribute__" = some (some (.builtin "BaseException.__getattribute__")))
   (hk_InvalidText : PySem.W.findIn K (.ref c_InvalidText) "__getattr__" = some none)
   (hs_InvalidText : PySem.W.subIn K (.ref c_InvalidText) (.type "BaseException") = some true)
   (hd_InvalidText : PySem.W.hasDictIn K c_InvalidText = true)
   (ty_InvalidText : PySem.W.typeIn K (.ref c_InvalidText) = some (.type "type"))
   (ic_InvalidText : PySem.W.isClsIn K c_InvalidText = true)
   (ss_InvalidText : PySem.W.subIn K (.ref c_InvalidText) (.ref c_InvalidText) = some true)
   (no_line_InvalidText : PySem.W.findIn K (.ref c_InvalidText) "line" = some none)
   (A_InvalidArgument : PySem.W.nsIn K mainGlobals "InvalidArgument" = some (some (.ref c_InvalidArgument)))
   (l_InvalidArgument : K.lookup c_InvalidArgument = some (excClassObj nm_InvalidArgument q_InvalidArgument c_InvalidArgument N_InvalidArgument bs_InvalidArgument [.ref c_InputError, .ref c_OpenError, .type "LookupError", .type "Exception", .type "BaseException", .type "object"] true sn_InvalidArgument sub_InvalidArgument ab_InvalidArgument col_InvalidArgument dd_InvalidArgument ka_InvalidArgument kb_InvalidArgument kc_InvalidArgument kd_InvalidArgument ke_InvalidArgument "LookupError.__new__"))
   (sa_InvalidArgument : PySem.W.findIn K (.ref c_InvalidArgument) "__setattr__" = some (some (.builtin "object.__setattr__")))
   (su_InvalidArgument : PySem.W.ks_superIn K c_InvalidArgument c_InvalidArgument "__init__" = some (some (.builtin "LookupError.__init__")))
   (ii_InvalidArgument : PySem.W.findIn K (.ref c_InvalidArgument) "__init__" = some (some (.ref i_InvalidArgument)))
   (ti_InvalidArgument : PySem.W.typeIn K (.ref i_InvalidArgument) = some (.type "function"))
   (lf_InvalidArgument : K.lookup i_InvalidArgument = some ⟨oc_InvalidArgument, od_InvalidArgument, .func (PySem.W.ksFn "__init__" "InvalidArgument.__init__" (defArgs s_InvalidArgument___init__) (defBody s_InvalidArgument___init__) (defScope s_InvalidArgument___init__) .none kV_InvalidArgument dc_InvalidArgument pm_InvalidArgument an_InvalidArgument (.ref cd_InvalidArgument) ct_InvalidArgument cc_InvalidArgument), sl_InvalidArgument⟩)
   (cf_InvalidArgument : PySem.W.codeIn K (.ref cd_InvalidArgument) "InvalidArgument.__init__" = true)
   (lc_InvalidArgument : K.lookup cc_InvalidArgument = some ⟨cll_InvalidArgument, cld_InvalidArgument, .cell (some (.ref c_InvalidArgument)), csl_InvalidArgument⟩)
   (ld_InvalidArgument : K.lookup cd_InvalidArgument = some ⟨ccl_InvalidArgument, cdd_InvalidArgument, .fields vs_InvalidArgument, ccs_InvalidArgument⟩)
   (v2_InvalidArgument : vs_InvalidArgument[2]? = some (.str fl_InvalidArgument tf_InvalidArgument))
   (fe_InvalidArgument : ((PP.main.file : Str) == fl_InvalidArgument) = true)
   (kp_InvalidArgument : PySem.W.keepIn K (.ref c_InvalidArgument) = true)
   (hg_InvalidArgument : PySem.W.findIn K (.ref c_InvalidArgument) "__getattribute__" = some (some (.builtin "BaseException.__getattribute__")))
   (hk_InvalidArgument : PySem.W.findIn K (.ref c_InvalidArgument) "__getattr__" = some none)
   (hs_InvalidArgument : PySem.W.subIn K (.ref c_InvalidArgument) (.type "BaseException") = some true)
   (hd_InvalidArgument : PySem.W.hasDictIn K c_InvalidArgument = true)
   (ty_InvalidArgument : PySem.W.typeIn K (.ref c_InvalidArgument) = some (.type "type"))
   (ic_InvalidArgument : PySem.W.isClsIn K c_InvalidArgument = true)
   (ss_InvalidArgument : PySem.W.subIn K (.ref c_InvalidArgument) (.ref c_InvalidArgument) = some true)
   (no_part_InvalidArgument : PySem.W.findIn K (.ref c_InvalidArgument) "part" = some none)
   (xa2 : PySem.W.specialIn K (.builtin "object.__class__") "__get__" = some (some (.builtin "getset_descriptor.__get__")))
   (xa3 : PySem.W.takesIn K (.builtin "object.__class__") = some true)
   (xc_InvalidProgram : PySem.W.findIn K (.ref c_InvalidProgram) "__class__" = some (some (.builtin "object.__class__")))
   (xm4_InvalidProgram : PySem.W.mroIn K c_InvalidProgram (.type "object") = some true)
   (xc_InvalidHistory : PySem.W.findIn K (.ref c_InvalidHistory) "__class__" = some (some (.builtin "object.__class__")))
   (xm4_InvalidHistory : PySem.W.mroIn K c_InvalidHistory (.type "object") = some true)
   (xc_InvalidText : PySem.W.findIn K (.ref c_InvalidText) "__class__" = some (some (.builtin "object.__class__")))
   (xm4_InvalidText : PySem.W.mroIn K c_InvalidText (.type "object") = some true)
   (xc_InvalidArgument : PySem.W.findIn K (.ref c_InvalidArgument) "__class__" = some (some (.builtin "object.__class__")))
   (xm4_InvalidArgument : PySem.W.mroIn K c_InvalidArgument (.type "object") = some true)
   (ty_RunError : PySem.W.typeIn K (.ref c_RunError) = some (.type "type"))
   (ic_RunError : PySem.W.isClsIn K c_RunError = true)
   (ty_InputError : PySem.W.typeIn K (.ref c_InputError) = some (.type "type"))
   (ic_InputError : PySem.W.isClsIn K c_InputError = true)
   (kARs : PySem.W.subIn K (.ref c_InvalidArgument) (.ref c_RunError) = some false)
   (kARn : (Value.ref c_InvalidArgument == Value.ref c_RunError) = false)
   (kATs : PySem.W.subIn K (.ref c_InvalidArgument) (.ref c_InvalidText) = some false)
   (kATn : (Value.ref c_InvalidArgument == Value.ref c_InvalidText) = false)
   (kHNs : PySem.W.subIn K (.ref c_InvalidHistory) (.ref c_InputError) = some true)
   (kHNn : (Value.ref c_InvalidHistory == Value.ref c_InputError) = false)
   (kHTs : PySem.W.subIn K (.ref c_InvalidHistory) (.ref c_InvalidText) = some false)
   (kHTn : (Value.ref c_InvalidHistory == Value.ref c_InvalidText) = false)
   (kTNs : PySem.W.subIn K (.ref c_InvalidText) (.ref c_InputError) = some true)
   (kTNn : (Value.ref c_InvalidText == Value.ref c_InputError) = false)
   (kTRs : PySem.W.subIn K (.ref c_InvalidText) (.ref c_RunError) = some false)
   (kTRn : (Value.ref c_InvalidText == Value.ref c_RunError) = false)
   (kINs : PySem.W.subIn K (.ref c_InvalidProgram) (.ref c_InputError) = some true)
   (kINn : (Value.ref c_InvalidProgram == Value.ref c_InputError) = false)
   (eHAs : PySem.W.subIn K (.ref c_InvalidHistory) (.ref c_InvalidArgument) = some false)
   (eTAs : PySem.W.subIn K (.ref c_InvalidText) (.ref c_InvalidArgument) = some false)
   (eTHs : PySem.W.subIn K (.ref c_InvalidText) (.ref c_InvalidHistory) = some false)
   (eIAs : PySem.W.subIn K (.ref c_InvalidProgram) (.ref c_InvalidArgument) = some false)
   (eIHs : PySem.W.subIn K (.ref c_InvalidProgram) (.ref c_InvalidHistory) = some false)
   (eITs : PySem.W.subIn K (.ref c_InvalidProgram) (.ref c_InvalidText) = some false)
   (A_is_integer : PySem.W.nsIn K mainGlobals "is_integer" = some (some (.ref g_is_integer)))
   (L_is_integer : K.lookup g_is_integer = some ⟨xo_is_integer, xd_is_integer, .func (PySem.W.fnOf "is_integer" "is_integer" (defArgs s_is_integer) (defBody s_is_integer) (defScope s_is_integer) .none xk_is_integer xc_is_integer xp_is_integer xa_is_integer xe_is_integer xt_is_integer), xs_is_integer⟩)
   (D_is_integer : PySem.W.codeIn K xe_is_integer "is_integer" = true)
   (P_is_integer : PySem.W.keepIn K (.ref g_is_integer) = true)
   (A_is_word : PySem.W.nsIn K mainGlobals "is_word" = some (some (.ref g_is_word)))
   (L_is_word : K.lookup g_is_word = some ⟨xo_is_word, xd_is_word, .func (PySem.W.fnOf "is_word" "is_word" (defArgs s_is_word) (defBody s_is_word) (defScope s_is_word) .none xk_is_word xc_is_word xp_is_word xa_is_word xe_is_word xt_is_word), xs_is_word⟩)
   (D_is_word : PySem.W.codeIn K xe_is_word "is_word" = true)
   (P_is_word : PySem.W.keepIn K (.ref g_is_word) = true)
   (A_are_words : PySem.W.nsIn K mainGlobals "are_words" = some (some (.ref g_are_words)))
   (L_are_words : K.lookup g_are_words = some ⟨xo_are_words, xd_are_words, .func (PySem.W.fnOf "are_words" "are_words" (defArgs s_are_words) (defBody s_are_words) (defScope s_are_words) .none xk_are_words xc_are_words xp_are_words xa_are_words xe_are_words xt_are_words), xs_are_words⟩)
   (D_are_words : PySem.W.codeIn K xe_are_words "are_words" = true)
   (P_are_words : PySem.W.keepIn K (.ref g_are_words) = true)
   (A_is_branches : PySem.W.nsIn K mainGlobals "is_branches" = some (some (.ref g_is_branches)))
   (L_is_branches : K.lookup g_is_branches = some ⟨xo_is_branches, xd_is_branches, .func (PySem.W.fnOf "is_branches" "is_branches" (defArgs s_is_branches) (defBody s_is_branches) (defScope s_is_branches) .none xk_is_branches xc_is_branches xp_is_branches xa_is_branches xe_is_branches xt_is_branches), xs_is_branches⟩)
   (D_is_branches : PySem.W.codeIn K xe_is_branches "is_branches" = true)
   (P_is_branches : PySem.W.keepIn K (.ref g_is_branches) = true)
   (A_inner_lists : PySem.W.nsIn K mainGlobals "inner_lists" = some (some (.ref g_inner_lists)))
   (L_inner_lists : K.lookup g_inner_lists = some ⟨xo_inner_lists, xd_inner_lists, .func (PySem.W.fnOf "inner_lists" "inner_lists" (defArgs s_inner_lists) (defBody s_inner_lists) (defScope s_inner_lists) .none xk_inner_lists xc_inner_lists xp_inner_lists xa_inner_lists xe_inner_lists xt_inner_lists), xs_inner_lists⟩)
   (D_inner_lists : PySem.W.codeIn K xe_inner_lists "inner_lists" = true)
   (P_inner_lists : PySem.W.keepIn K (.ref g_inner_lists) = true)
   (A_with_lists : PySem.W.nsIn K mainGlobals "with_lists" = some (some (.ref g_with_lists)))
   (L_with_lists : K.lookup g_with_lists = some ⟨xo_with_lists, xd_with_lists, .func (PySem.W.fnOf "with_lists" "with_lists" (defArgs s_with_lists) (defBody s_with_lists) (defScope s_with_lists) .none xk_with_lists xc_with_lists xp_with_lists xa_with_lists xe_with_lists xt_with_lists), xs_with_lists⟩)
   (D_with_lists : PySem.W.codeIn K xe_with_lists "with_lists" = true)
   (P_with_lists : PySem.W.keepIn K (.ref g_with_lists) = true)
   (A_copy_row : PySem.W.nsIn K mainGlobals "copy_row" = some (some (.ref g_copy_row)))
   (L_copy_row : K.lookup g_copy_row = some ⟨xo_copy_row, xd_copy_row, .func (PySem.W.fnOf "copy_row" "copy_row" (defArgs s_copy_row) (defBody s_copy_row) (defScope s_copy_row) .none xk_copy_row xc_copy_row xp_copy_row xa_copy_row xe_copy_row xt_copy_row), xs_copy_row⟩)
   (D_copy_row : PySem.W.codeIn K xe_copy_row "copy_row" = true)
   (P_copy_row : PySem.W.keepIn K (.ref g_copy_row) = true)
   (A_copy_rows : PySem.W.nsIn K mainGlobals "copy_rows" = some (some (.ref g_copy_rows)))
   (L_copy_rows : K.lookup g_copy_rows = some ⟨xo_copy_rows, xd_copy_rows, .func (PySem.W.fnOf "copy_rows" "copy_rows" (defArgs s_copy_rows) (defBody s_copy_rows) (defScope s_copy_rows) .none xk_copy_rows xc_copy_rows xp_copy_rows xa_copy_rows xe_copy_rows xt_copy_rows), xs_copy_rows⟩)
   (D_copy_rows : PySem.W.codeIn K xe_copy_rows "copy_rows" = true)
   (P_copy_rows : PySem.W.keepIn K (.ref g_copy_rows) = true)
   (A_checked_asks : PySem.W.nsIn K mainGlobals "checked_asks" = some (some (.ref g_checked_asks)))
   (L_checked_asks : K.lookup g_checked_asks = some ⟨xo_checked_asks, xd_checked_asks, .func (PySem.W.fnOf "checked_asks" "checked_asks" (defArgs s_checked_asks) (defBody s_checked_asks) (defScope s_checked_asks) .none xk_checked_asks xc_checked_asks xp_checked_asks xa_checked_asks xe_checked_asks xt_checked_asks), xs_checked_asks⟩)
   (D_checked_asks : PySem.W.codeIn K xe_checked_asks "checked_asks" = true)
   (P_checked_asks : PySem.W.keepIn K (.ref g_checked_asks) = true)
   (A_is_box : PySem.W.nsIn K mainGlobals "is_box" = some (some (.ref g_is_box)))
   (L_is_box : K.lookup g_is_box = some ⟨xo_is_box, xd_is_box, .func (PySem.W.fnOf "is_box" "is_box" (defArgs s_is_box) (defBody s_is_box) (defScope s_is_box) .none xk_is_box xc_is_box xp_is_box xa_is_box xe_is_box xt_is_box), xs_is_box⟩)
   (D_is_box : PySem.W.codeIn K xe_is_box "is_box" = true)
   (P_is_box : PySem.W.keepIn K (.ref g_is_box) = true)
   (A_checked_signals : PySem.W.nsIn K mainGlobals "checked_signals" = some (some (.ref g_checked_signals)))
   (L_checked_signals : K.lookup g_checked_signals = some ⟨xo_checked_signals, xd_checked_signals, .func (PySem.W.fnOf "checked_signals" "checked_signals" (defArgs s_checked_signals) (defBody s_checked_signals) (defScope s_checked_signals) .none xk_checked_signals xc_checked_signals xp_checked_signals xa_checked_signals xe_checked_signals xt_checked_signals), xs_checked_signals⟩)
   (D_checked_signals : PySem.W.codeIn K xe_checked_signals "checked_signals" = true)
   (P_checked_signals : PySem.W.keepIn K (.ref g_checked_signals) = true)
   (A_checked_inputs : PySem.W.nsIn K mainGlobals "checked_inputs" = some (some (.ref g_checked_inputs)))
   (L_checked_inputs : K.lookup g_checked_inputs = some ⟨xo_checked_inputs, xd_checked_inputs, .func (PySem.W.fnOf "checked_inputs" "checked_inputs" (defArgs s_checked_inputs) (defBody s_checked_inputs) (defScope s_checked_inputs) .none xk_checked_inputs xc_checked_inputs xp_checked_inputs xa_checked_inputs xe_checked_inputs xt_checked_inputs), xs_checked_inputs⟩)
   (D_checked_inputs : PySem.W.codeIn K xe_checked_inputs "checked_inputs" = true)
   (P_checked_inputs : PySem.W.keepIn K (.ref g_checked_inputs) = true)
   (A_has_form : PySem.W.nsIn K mainGlobals "has_form" = some (some (.ref g_has_form)))
   (L_has_form : K.lookup g_has_form = some ⟨xo_has_form, xd_has_form, .func (PySem.W.fnOf "has_form" "has_form" (defArgs s_has_form) (defBody s_has_form) (defScope s_has_form) .none xk_has_form xc_has_form xp_has_form xa_has_form xe_has_form xt_has_form), xs_has_form⟩)
   (D_has_form : PySem.W.codeIn K xe_has_form "has_form" = true)
   (P_has_form : PySem.W.keepIn K (.ref g_has_form) = true)
   (A_is_outer : PySem.W.nsIn K mainGlobals "is_outer" = some (some (.ref g_is_outer)))
   (L_is_outer : K.lookup g_is_outer = some ⟨xo_is_outer, xd_is_outer, .func (PySem.W.fnOf "is_outer" "is_outer" (defArgs s_is_outer) (defBody s_is_outer) (defScope s_is_outer) .none xk_is_outer xc_is_outer xp_is_outer xa_is_outer xe_is_outer xt_is_outer), xs_is_outer⟩)
   (D_is_outer : PySem.W.codeIn K xe_is_outer "is_outer" = true)
   (P_is_outer : PySem.W.keepIn K (.ref g_is_outer) = true)
   (A_suits_things : PySem.W.nsIn K mainGlobals "suits_things" = some (some (.ref g_suits_things)))
   (L_suits_things : K.lookup g_suits_things = some ⟨xo_suits_things, xd_suits_things, .func (PySem.W.fnOf "suits_things" "suits_things" (defArgs s_suits_things) (defBody s_suits_things) (defScope s_suits_things) .none xk_suits_things xc_suits_things xp_suits_things xa_suits_things xe_suits_things xt_suits_things), xs_suits_things⟩)
   (D_suits_things : PySem.W.codeIn K xe_suits_things "suits_things" = true)
   (P_suits_things : PySem.W.keepIn K (.ref g_suits_things) = true)
   (A_enter_token : PySem.W.nsIn K mainGlobals "enter_token" = some (some (.ref g_enter_token)))
   (L_enter_token : K.lookup g_enter_token = some ⟨xo_enter_token, xd_enter_token, .func (PySem.W.fnOf "enter_token" "enter_token" (defArgs s_enter_token) (defBody s_enter_token) (defScope s_enter_token) .none xk_enter_token xc_enter_token xp_enter_token xa_enter_token xe_enter_token xt_enter_token), xs_enter_token⟩)
   (D_enter_token : PySem.W.codeIn K xe_enter_token "enter_token" = true)
   (P_enter_token : PySem.W.keepIn K (.ref g_enter_token) = true)
   (A_check_tokens : PySem.W.nsIn K mainGlobals "check_tokens" = some (some (.ref g_check_tokens)))
   (L_check_tokens : K.lookup g_check_tokens = some ⟨xo_check_tokens, xd_check_tokens, .func (PySem.W.fnOf "check_tokens" "check_tokens" (defArgs s_check_tokens) (defBody s_check_tokens) (defScope s_check_tokens) .none xk_check_tokens xc_check_tokens xp_check_tokens xa_check_tokens xe_check_tokens xt_check_tokens), xs_check_tokens⟩)
   (D_check_tokens : PySem.W.codeIn K xe_check_tokens "check_tokens" = true)
   (P_check_tokens : PySem.W.keepIn K (.ref g_check_tokens) = true)
   (A_split_turns : PySem.W.nsIn K mainGlobals "split_turns" = some (some (.ref g_split_turns)))
   (L_split_turns : K.lookup g_split_turns = some ⟨xo_split_turns, xd_split_turns, .func (PySem.W.fnOf "split_turns" "split_turns" (defArgs s_split_turns) (defBody s_split_turns) (defScope s_split_turns) .none xk_split_turns xc_split_turns xp_split_turns xa_split_turns xe_split_turns xt_split_turns), xs_split_turns⟩)
   (D_split_turns : PySem.W.codeIn K xe_split_turns "split_turns" = true)
   (P_split_turns : PySem.W.keepIn K (.ref g_split_turns) = true)
   (A_check : PySem.W.nsIn K mainGlobals "check" = some (some (.ref g_check)))
   (L_check : K.lookup g_check = some ⟨xo_check, xd_check, .func (PySem.W.fnOf "check" "check" (defArgs s_check) (defBody s_check) (defScope s_check) .none xk_check xc_check xp_check xa_check xe_check xt_check), xs_check⟩)
   (D_check : PySem.W.codeIn K xe_check "check" = true)
   (P_check : PySem.W.keepIn K (.ref g_check) = true)
   (A_check_program : PySem.W.nsIn K mainGlobals "check_program" = some (some (.ref g_check_program)))
   (L_check_program : K.lookup g_check_program = some ⟨xo_check_program, xd_check_program, .func (PySem.W.fnOf "check_program" "check_program" (defArgs s_check_program) (defBody s_check_program) (defScope s_check_program) .none xk_check_program xc_check_program xp_check_program xa_check_program xe_check_program xt_check_program), xs_check_program⟩)
   (D_check_program : PySem.W.codeIn K xe_check_program "check_program" = true)
   (P_check_program : PySem.W.keepIn K (.ref g_check_program) = true)
   (A_program_text : PySem.W.nsIn K mainGlobals "program_text" = some (some (.ref g_program_text)))
   (L_program_text : K.lookup g_program_text = some ⟨xo_program_text, xd_program_text, .func (PySem.W.fnOf "program_text" "program_text" (defArgs s_program_text) (defBody s_program_text) (defScope s_program_text) .none xk_program_text xc_program_text xp_program_text xa_program_text xe_program_text xt_program_text), xs_program_text⟩)
   (D_program_text : PySem.W.codeIn K xe_program_text "program_text" = true)
   (P_program_text : PySem.W.keepIn K (.ref g_program_text) = true)
   (A_line_parts : PySem.W.nsIn K mainGlobals "line_parts" = some (some (.ref g_line_parts)))
   (L_line_parts : K.lookup g_line_parts = some ⟨xo_line_parts, xd_line_parts, .func (PySem.W.fnOf "line_parts" "line_parts" (defArgs s_line_parts) (defBody s_line_parts) (defScope s_line_parts) .none xk_line_parts xc_line_parts xp_line_parts xa_line_parts xe_line_parts xt_line_parts), xs_line_parts⟩)
   (D_line_parts : PySem.W.codeIn K xe_line_parts "line_parts" = true)
   (P_line_parts : PySem.W.keepIn K (.ref g_line_parts) = true)
   (A_row_form : PySem.W.nsIn K mainGlobals "row_form" = some (some (.ref g_row_form)))
   (L_row_form : K.lookup g_row_form = some ⟨xo_row_form, xd_row_form, .func (PySem.W.fnOf "row_form" "row_form" (defArgs s_row_form) (defBody s_row_form) (defScope s_row_form) .none xk_row_form xc_row_form xp_row_form xa_row_form xe_row_form xt_row_form), xs_row_form⟩)
   (D_row_form : PySem.W.codeIn K xe_row_form "row_form" = true)
   (P_row_form : PySem.W.keepIn K (.ref g_row_form) = true)
   (A_all_words : PySem.W.nsIn K mainGlobals "all_words" = some (some (.ref g_all_words)))
   (L_all_words : K.lookup g_all_words = some ⟨xo_all_words, xd_all_words, .func (PySem.W.fnOf "all_words" "all_words" (defArgs s_all_words) (defBody s_all_words) (defScope s_all_words) .none xk_all_words xc_all_words xp_all_words xa_all_words xe_all_words xt_all_words), xs_all_words⟩)
   (D_all_words : PySem.W.codeIn K xe_all_words "all_words" = true)
   (P_all_words : PySem.W.keepIn K (.ref g_all_words) = true)
   (A_read_program : PySem.W.nsIn K mainGlobals "read_program" = some (some (.ref g_read_program)))
   (L_read_program : K.lookup g_read_program = some ⟨xo_read_program, xd_read_program, .func (PySem.W.fnOf "read_program" "read_program" (defArgs s_read_program) (defBody s_read_program) (defScope s_read_program) .none xk_read_program xc_read_program xp_read_program xa_read_program xe_read_program xt_read_program), xs_read_program⟩)
   (D_read_program : PySem.W.codeIn K xe_read_program "read_program" = true)
   (P_read_program : PySem.W.keepIn K (.ref g_read_program) = true)
   (A_history_text : PySem.W.nsIn K mainGlobals "history_text" = some (some (.ref g_history_text)))
   (L_history_text : K.lookup g_history_text = some ⟨xo_history_text, xd_history_text, .func (PySem.W.fnOf "history_text" "history_text" (defArgs s_history_text) (defBody s_history_text) (defScope s_history_text) .none xk_history_text xc_history_text xp_history_text xa_history_text xe_history_text xt_history_text), xs_history_text⟩)
   (D_history_text : PySem.W.codeIn K xe_history_text "history_text" = true)
   (P_history_text : PySem.W.keepIn K (.ref g_history_text) = true)
   (A_number_like : PySem.W.nsIn K mainGlobals "number_like" = some (some (.ref g_number_like)))
   (L_number_like : K.lookup g_number_like = some ⟨xo_number_like, xd_number_like, .func (PySem.W.fnOf "number_like" "number_like" (defArgs s_number_like) (defBody s_number_like) (defScope s_number_like) .none xk_number_like xc_number_like xp_number_like xa_number_like xe_number_like xt_number_like), xs_number_like⟩)
   (D_number_like : PySem.W.codeIn K xe_number_like "number_like" = true)
   (P_number_like : PySem.W.keepIn K (.ref g_number_like) = true)
   (A_token_of : PySem.W.nsIn K mainGlobals "token_of" = some (some (.ref g_token_of)))
   (L_token_of : K.lookup g_token_of = some ⟨xo_token_of, xd_token_of, .func (PySem.W.fnOf "token_of" "token_of" (defArgs s_token_of) (defBody s_token_of) (defScope s_token_of) .none xk_token_of xc_token_of xp_token_of xa_token_of xe_token_of xt_token_of), xs_token_of⟩)
   (D_token_of : PySem.W.codeIn K xe_token_of "token_of" = true)
   (P_token_of : PySem.W.keepIn K (.ref g_token_of) = true)
   (A_read_history : PySem.W.nsIn K mainGlobals "read_history" = some (some (.ref g_read_history)))
   (L_read_history : K.lookup g_read_history = some ⟨xo_read_history, xd_read_history, .func (PySem.W.fnOf "read_history" "read_history" (defArgs s_read_history) (defBody s_read_history) (defScope s_read_history) .none xk_read_history xc_read_history xp_read_history xa_read_history xe_read_history xt_read_history), xs_read_history⟩)
   (D_read_history : PySem.W.codeIn K xe_read_history "read_history" = true)
   (P_read_history : PySem.W.keepIn K (.ref g_read_history) = true)
   (A__law_pool : PySem.W.nsIn K mainGlobals "_law_pool" = some (some (.ref g__law_pool)))
   (L__law_pool : K.lookup g__law_pool = some ⟨xo__law_pool, xd__law_pool, .func (PySem.W.fnOf "_law_pool" "_law_pool" (defArgs s__law_pool) (defBody s__law_pool) (defScope s__law_pool) .none xk__law_pool xc__law_pool xp__law_pool xa__law_pool xe__law_pool xt__law_pool), xs__law_pool⟩)
   (D__law_pool : PySem.W.codeIn K xe__law_pool "_law_pool" = true)
   (P__law_pool : PySem.W.keepIn K (.ref g__law_pool) = true)
   (A__law_draw : PySem.W.nsIn K mainGlobals "_law_draw" = some (some (.ref g__law_draw)))
   (L__law_draw : K.lookup g__law_draw = some ⟨xo__law_draw, xd__law_draw, .func (PySem.W.fnOf "_law_draw" "_law_draw" (defArgs s__law_draw) (defBody s__law_draw) (defScope s__law_draw) .none xk__law_draw xc__law_draw xp__law_draw xa__law_draw xe__law_draw xt__law_draw), xs__law_draw⟩)
   (D__law_draw : PySem.W.codeIn K xe__law_draw "_law_draw" = true)
   (P__law_draw : PySem.W.keepIn K (.ref g__law_draw) = true)
   (A__law_item : PySem.W.nsIn K mainGlobals "_law_item" = some (some (.ref g__law_item)))
   (L__law_item : K.lookup g__law_item = some ⟨xo__law_item, xd__law_item, .func (PySem.W.fnOf "_law_item" "_law_item" (defArgs s__law_item) (defBody s__law_item) (defScope s__law_item) .none xk__law_item xc__law_item xp__law_item xa__law_item xe__law_item xt__law_item), xs__law_item⟩)
   (D__law_item : PySem.W.codeIn K xe__law_item "_law_item" = true)
   (P__law_item : PySem.W.keepIn K (.ref g__law_item) = true)
   (A__law_call : PySem.W.nsIn K mainGlobals "_law_call" = some (some (.ref g__law_call)))
   (L__law_call : K.lookup g__law_call = some ⟨xo__law_call, xd__law_call, .func (PySem.W.fnOf "_law_call" "_law_call" (defArgs s__law_call) (defBody s__law_call) (defScope s__law_call) .none xk__law_call xc__law_call xp__law_call xa__law_call xe__law_call xt__law_call), xs__law_call⟩)
   (D__law_call : PySem.W.codeIn K xe__law_call "_law_call" = true)
   (P__law_call : PySem.W.keepIn K (.ref g__law_call) = true)
   (A__law_nested : PySem.W.nsIn K mainGlobals "_law_nested" = some (some (.ref g__law_nested)))
   (L__law_nested : K.lookup g__law_nested = some ⟨xo__law_nested, xd__law_nested, .func (PySem.W.fnOf "_law_nested" "_law_nested" (defArgs s__law_nested) (defBody s__law_nested) (defScope s__law_nested) .none xk__law_nested xc__law_nested xp__law_nested xa__law_nested xe__law_nested xt__law_nested), xs__law_nested⟩)
   (D__law_nested : PySem.W.codeIn K xe__law_nested "_law_nested" = true)
   (P__law_nested : PySem.W.keepIn K (.ref g__law_nested) = true)
   (A__law_nested_due : PySem.W.nsIn K mainGlobals "_law_nested_due" = some (some (.ref g__law_nested_due)))
   (L__law_nested_due : K.lookup g__law_nested_due = some ⟨xo__law_nested_due, xd__law_nested_due, .func (PySem.W.fnOf "_law_nested_due" "_law_nested_due" (defArgs s__law_nested_due) (defBody s__law_nested_due) (defScope s__law_nested_due) .none xk__law_nested_due xc__law_nested_due xp__law_nested_due xa__law_nested_due xe__law_nested_due xt__law_nested_due), xs__law_nested_due⟩)
   (D__law_nested_due : PySem.W.codeIn K xe__law_nested_due "_law_nested_due" = true)
   (P__law_nested_due : PySem.W.keepIn K (.ref g__law_nested_due) = true)
   (A_law : PySem.W.nsIn K mainGlobals "law" = some (some (.ref g_law)))
   (L_law : K.lookup g_law = some ⟨xo_law, xd_law, .func (PySem.W.fnOf "law" "law" (defArgs s_law) (defBody s_law) (defScope s_law) .none xk_law xc_law xp_law xa_law xe_law xt_law), xs_law⟩)
   (D_law : PySem.W.codeIn K xe_law "law" = true)
   (P_law : PySem.W.keepIn K (.ref g_law) = true)
   (A_RowCheck : PySem.W.nsIn K mainGlobals "RowCheck" = some (some (.ref c_RowCheck)))
   (c1_RowCheck : PySem.W.plainGet K c_RowCheck Str.empty = true)
   (c2_RowCheck : PySem.W.hasDictIn K c_RowCheck = true)
   (c3_RowCheck : PySem.W.plainOver K c_RowCheck = true)
   (c4_RowCheck : PySem.W.findIn K (.ref c_RowCheck) "__setattr__" = some (some (.builtin "object.__setattr__")))
   (n_RowCheck_known_asks : PySem.W.findIn K (.ref c_RowCheck) "known_asks" = some none)
   (n_RowCheck_known_signals : PySem.W.findIn K (.ref c_RowCheck) "known_signals" = some none)
   (n_RowCheck_with_edits : PySem.W.findIn K (.ref c_RowCheck) "with_edits" = some none)
   (n_RowCheck_total : PySem.W.findIn K (.ref c_RowCheck) "total" = some none)
   (n_RowCheck_label_words : PySem.W.findIn K (.ref c_RowCheck) "label_words" = some none)
   (n_RowCheck_slot_words : PySem.W.findIn K (.ref c_RowCheck) "slot_words" = some none)
   (n_RowCheck_gate_words : PySem.W.findIn K (.ref c_RowCheck) "gate_words" = some none)
   (n_RowCheck_edit_words : PySem.W.findIn K (.ref c_RowCheck) "edit_words" = some none)
   (mk_RowCheck : PySem.W.makesIn K c_RowCheck = true)
   (kp_RowCheck : PySem.W.keepIn K (.ref c_RowCheck) = true)
   (at_RowCheck___init__ : PySem.W.findIn K (.ref c_RowCheck) "__init__" = some (some (.ref m_RowCheck___init__)))
   (fn_RowCheck___init__ : PySem.W.isFn K (.ref m_RowCheck___init__) = true)
   (L_RowCheck___init__ : K.lookup m_RowCheck___init__ = some ⟨xo_RowCheck___init__, xd_RowCheck___init__, .func (PySem.W.fnOf "__init__" "RowCheck.__init__" (defArgs s_RowCheck___init__) (defBody s_RowCheck___init__) (defScope s_RowCheck___init__) .none xk_RowCheck___init__ xc_RowCheck___init__ xp_RowCheck___init__ xa_RowCheck___init__ xe_RowCheck___init__ xt_RowCheck___init__), xs_RowCheck___init__⟩)
   (D_RowCheck___init__ : PySem.W.codeIn K xe_RowCheck___init__ "RowCheck.__init__" = true)
   (P_RowCheck___init__ : PySem.W.keepIn K (.ref m_RowCheck___init__) = true)
   (at_RowCheck_check : PySem.W.findIn K (.ref c_RowCheck) "check" = some (some (.ref m_RowCheck_check)))
   (fn_RowCheck_check : PySem.W.isFn K (.ref m_RowCheck_check) = true)
   (L_RowCheck_check : K.lookup m_RowCheck_check = some ⟨xo_RowCheck_check, xd_RowCheck_check, .func (PySem.W.fnOf "check" "RowCheck.check" (defArgs s_RowCheck_check) (defBody s_RowCheck_check) (defScope s_RowCheck_check) .none xk_RowCheck_check xc_RowCheck_check xp_RowCheck_check xa_RowCheck_check xe_RowCheck_check xt_RowCheck_check), xs_RowCheck_check⟩)
   (D_RowCheck_check : PySem.W.codeIn K xe_RowCheck_check "RowCheck.check" = true)
   (P_RowCheck_check : PySem.W.keepIn K (.ref m_RowCheck_check) = true)
   (at_RowCheck_check_sizes : PySem.W.findIn K (.ref c_RowCheck) "check_sizes" = some (some (.ref m_RowCheck_check_sizes)))
   (fn_RowCheck_check_sizes : PySem.W.isFn K (.ref m_RowCheck_check_sizes) = true)
   (L_RowCheck_check_sizes : K.lookup m_RowCheck_check_sizes = some ⟨xo_RowCheck_check_sizes, xd_RowCheck_check_sizes, .func (PySem.W.fnOf "check_sizes" "RowCheck.check_sizes" (defArgs s_RowCheck_check_sizes) (defBody s_RowCheck_check_sizes) (defScope s_RowCheck_check_sizes) .none xk_RowCheck_check_sizes xc_RowCheck_check_sizes xp_RowCheck_check_sizes xa_RowCheck_check_sizes xe_RowCheck_check_sizes xt_RowCheck_check_sizes), xs_RowCheck_check_sizes⟩)
   (D_RowCheck_check_sizes : PySem.W.codeIn K xe_RowCheck_check_sizes "RowCheck.check_sizes" = true)
   (P_RowCheck_check_sizes : PySem.W.keepIn K (.ref m_RowCheck_check_sizes) = true)
   (at_RowCheck_check_list : PySem.W.findIn K (.ref c_RowCheck) "check_list" = some (some (.ref m_RowCheck_check_list)))
   (fn_RowCheck_check_list : PySem.W.isFn K (.ref m_RowCheck_check_list) = true)
   (L_RowCheck_check_list : K.lookup m_RowCheck_check_list = some ⟨xo_RowCheck_check_list, xd_RowCheck_check_list, .func (PySem.W.fnOf "check_list" "RowCheck.check_list" (defArgs s_RowCheck_check_list) (defBody s_RowCheck_check_list) (defScope s_RowCheck_check_list) .none xk_RowCheck_check_list xc_RowCheck_check_list xp_RowCheck_check_list xa_RowCheck_check_list xe_RowCheck_check_list xt_RowCheck_check_list), xs_RowCheck_check_list⟩)
   (D_RowCheck_check_list : PySem.W.codeIn K xe_RowCheck_check_list "RowCheck.check_list" = true)
   (P_RowCheck_check_list : PySem.W.keepIn K (.ref m_RowCheck_check_list) = true)
   (at_RowCheck_fits : PySem.W.findIn K (.ref c_RowCheck) "fits" = some (some (.ref m_RowCheck_fits)))
   (fn_RowCheck_fits : PySem.W.isFn K (.ref m_RowCheck_fits) = true)
   (L_RowCheck_fits : K.lookup m_RowCheck_fits = some ⟨xo_RowCheck_fits, xd_RowCheck_fits, .func (PySem.W.fnOf "fits" "RowCheck.fits" (defArgs s_RowCheck_fits) (defBody s_RowCheck_fits) (defScope s_RowCheck_fits) .none xk_RowCheck_fits xc_RowCheck_fits xp_RowCheck_fits xa_RowCheck_fits xe_RowCheck_fits xt_RowCheck_fits), xs_RowCheck_fits⟩)
   (D_RowCheck_fits : PySem.W.codeIn K xe_RowCheck_fits "RowCheck.fits" = true)
   (P_RowCheck_fits : PySem.W.keepIn K (.ref m_RowCheck_fits) = true)
   (at_RowCheck_id_fits : PySem.W.findIn K (.ref c_RowCheck) "id_fits" = some (some (.ref m_RowCheck_id_fits)))
   (fn_RowCheck_id_fits : PySem.W.isFn K (.ref m_RowCheck_id_fits) = true)
   (L_RowCheck_id_fits : K.lookup m_RowCheck_id_fits = some ⟨xo_RowCheck_id_fits, xd_RowCheck_id_fits, .func (PySem.W.fnOf "id_fits" "RowCheck.id_fits" (defArgs s_RowCheck_id_fits) (defBody s_RowCheck_id_fits) (defScope s_RowCheck_id_fits) .none xk_RowCheck_id_fits xc_RowCheck_id_fits xp_RowCheck_id_fits xa_RowCheck_id_fits xe_RowCheck_id_fits xt_RowCheck_id_fits), xs_RowCheck_id_fits⟩)
   (D_RowCheck_id_fits : PySem.W.codeIn K xe_RowCheck_id_fits "RowCheck.id_fits" = true)
   (P_RowCheck_id_fits : PySem.W.keepIn K (.ref m_RowCheck_id_fits) = true)
   (at_RowCheck_part_fits : PySem.W.findIn K (.ref c_RowCheck) "part_fits" = some (some (.ref m_RowCheck_part_fits)))
   (fn_RowCheck_part_fits : PySem.W.isFn K (.ref m_RowCheck_part_fits) = true)
   (L_RowCheck_part_fits : K.lookup m_RowCheck_part_fits = some ⟨xo_RowCheck_part_fits, xd_RowCheck_part_fits, .func (PySem.W.fnOf "part_fits" "RowCheck.part_fits" (defArgs s_RowCheck_part_fits) (defBody s_RowCheck_part_fits) (defScope s_RowCheck_part_fits) .none xk_RowCheck_part_fits xc_RowCheck_part_fits xp_RowCheck_part_fits xa_RowCheck_part_fits xe_RowCheck_part_fits xt_RowCheck_part_fits), xs_RowCheck_part_fits⟩)
   (D_RowCheck_part_fits : PySem.W.codeIn K xe_RowCheck_part_fits "RowCheck.part_fits" = true)
   (P_RowCheck_part_fits : PySem.W.keepIn K (.ref m_RowCheck_part_fits) = true)
   (at_RowCheck_collect : PySem.W.findIn K (.ref c_RowCheck) "collect" = some (some (.ref m_RowCheck_collect)))
   (fn_RowCheck_collect : PySem.W.isFn K (.ref m_RowCheck_collect) = true)
   (L_RowCheck_collect : K.lookup m_RowCheck_collect = some ⟨xo_RowCheck_collect, xd_RowCheck_collect, .func (PySem.W.fnOf "collect" "RowCheck.collect" (defArgs s_RowCheck_collect) (defBody s_RowCheck_collect) (defScope s_RowCheck_collect) .none xk_RowCheck_collect xc_RowCheck_collect xp_RowCheck_collect xa_RowCheck_collect xe_RowCheck_collect xt_RowCheck_collect), xs_RowCheck_collect⟩)
   (D_RowCheck_collect : PySem.W.codeIn K xe_RowCheck_collect "RowCheck.collect" = true)
   (P_RowCheck_collect : PySem.W.keepIn K (.ref m_RowCheck_collect) = true)
   (A_Program : PySem.W.nsIn K mainGlobals "Program" = some (some (.ref c_Program)))
   (c1_Program : PySem.W.plainGet K c_Program Str.empty = true)
   (c2_Program : PySem.W.hasDictIn K c_Program = true)
   (c3_Program : PySem.W.plainOver K c_Program = true)
   (c4_Program : PySem.W.findIn K (.ref c_Program) "__setattr__" = some (some (.builtin "object.__setattr__")))
   (n_Program_ask_table : PySem.W.findIn K (.ref c_Program) "ask_table" = some none)
   (n_Program_signal_table : PySem.W.findIn K (.ref c_Program) "signal_table" = some none)
   (n_Program_input_words : PySem.W.findIn K (.ref c_Program) "input_words" = some none)
   (n_Program_row_list : PySem.W.findIn K (.ref c_Program) "row_list" = some none)
   (n_Program_label_names : PySem.W.findIn K (.ref c_Program) "label_names" = some none)
   (n_Program_slot_names : PySem.W.findIn K (.ref c_Program) "slot_names" = some none)
   (n_Program_gate_names : PySem.W.findIn K (.ref c_Program) "gate_names" = some none)
   (n_Program_row_table : PySem.W.findIn K (.ref c_Program) "row_table" = some none)
   (n_Program_list_sizes : PySem.W.findIn K (.ref c_Program) "list_sizes" = some none)
   (mk_Program : PySem.W.makesIn K c_Program = true)
   (kp_Program : PySem.W.keepIn K (.ref c_Program) = true)
   (at_Program___init__ : PySem.W.findIn K (.ref c_Program) "__init__" = some (some (.ref m_Program___init__)))
   (fn_Program___init__ : PySem.W.isFn K (.ref m_Program___init__) = true)
   (L_Program___init__ : K.lookup m_Program___init__ = some ⟨xo_Program___init__, xd_Program___init__, .func (PySem.W.fnOf "__init__" "Program.__init__" (defArgs s_Program___init__) (defBody s_Program___init__) (defScope s_Program___init__) .none xk_Program___init__ xc_Program___init__ xp_Program___init__ xa_Program___init__ xe_Program___init__ xt_Program___init__), xs_Program___init__⟩)
   (D_Program___init__ : PySem.W.codeIn K xe_Program___init__ "Program.__init__" = true)
   (P_Program___init__ : PySem.W.keepIn K (.ref m_Program___init__) = true)
   (at_Program_add_rows : PySem.W.findIn K (.ref c_Program) "add_rows" = some (some (.ref m_Program_add_rows)))
   (fn_Program_add_rows : PySem.W.isFn K (.ref m_Program_add_rows) = true)
   (L_Program_add_rows : K.lookup m_Program_add_rows = some ⟨xo_Program_add_rows, xd_Program_add_rows, .func (PySem.W.fnOf "add_rows" "Program.add_rows" (defArgs s_Program_add_rows) (defBody s_Program_add_rows) (defScope s_Program_add_rows) .none xk_Program_add_rows xc_Program_add_rows xp_Program_add_rows xa_Program_add_rows xe_Program_add_rows xt_Program_add_rows), xs_Program_add_rows⟩)
   (D_Program_add_rows : PySem.W.codeIn K xe_Program_add_rows "Program.add_rows" = true)
   (P_Program_add_rows : PySem.W.keepIn K (.ref m_Program_add_rows) = true)
   (A_LineReader : PySem.W.nsIn K mainGlobals "LineReader" = some (some (.ref c_LineReader)))
   (c1_LineReader : PySem.W.plainGet K c_LineReader Str.empty = true)
   (c2_LineReader : PySem.W.hasDictIn K c_LineReader = true)
   (c3_LineReader : PySem.W.plainOver K c_LineReader = true)
   (c4_LineReader : PySem.W.findIn K (.ref c_LineReader) "__setattr__" = some (some (.builtin "object.__setattr__")))
   (n_LineReader_lines : PySem.W.findIn K (.ref c_LineReader) "lines" = some none)
   (n_LineReader_done : PySem.W.findIn K (.ref c_LineReader) "done" = some none)
   (mk_LineReader : PySem.W.makesIn K c_LineReader = true)
   (kp_LineReader : PySem.W.keepIn K (.ref c_LineReader) = true)
   (at_LineReader___init__ : PySem.W.findIn K (.ref c_LineReader) "__init__" = some (some (.ref m_LineReader___init__)))
   (fn_LineReader___init__ : PySem.W.isFn K (.ref m_LineReader___init__) = true)
   (L_LineReader___init__ : K.lookup m_LineReader___init__ = some ⟨xo_LineReader___init__, xd_LineReader___init__, .func (PySem.W.fnOf "__init__" "LineReader.__init__" (defArgs s_LineReader___init__) (defBody s_LineReader___init__) (defScope s_LineReader___init__) .none xk_LineReader___init__ xc_LineReader___init__ xp_LineReader___init__ xa_LineReader___init__ xe_LineReader___init__ xt_LineReader___init__), xs_LineReader___init__⟩)
   (D_LineReader___init__ : PySem.W.codeIn K xe_LineReader___init__ "LineReader.__init__" = true)
   (P_LineReader___init__ : PySem.W.keepIn K (.ref m_LineReader___init__) = true)
   (at_LineReader_peek : PySem.W.findIn K (.ref c_LineReader) "peek" = some (some (.ref m_LineReader_peek)))
   (fn_LineReader_peek : PySem.W.isFn K (.ref m_LineReader_peek) = true)
   (L_LineReader_peek : K.lookup m_LineReader_peek = some ⟨xo_LineReader_peek, xd_LineReader_peek, .func (PySem.W.fnOf "peek" "LineReader.peek" (defArgs s_LineReader_peek) (defBody s_LineReader_peek) (defScope s_LineReader_peek) .none xk_LineReader_peek xc_LineReader_peek xp_LineReader_peek xa_LineReader_peek xe_LineReader_peek xt_LineReader_peek), xs_LineReader_peek⟩)
   (D_LineReader_peek : PySem.W.codeIn K xe_LineReader_peek "LineReader.peek" = true)
   (P_LineReader_peek : PySem.W.keepIn K (.ref m_LineReader_peek) = true)
   (at_LineReader_expect : PySem.W.findIn K (.ref c_LineReader) "expect" = some (some (.ref m_LineReader_expect)))
   (fn_LineReader_expect : PySem.W.isFn K (.ref m_LineReader_expect) = true)
   (L_LineReader_expect : K.lookup m_LineReader_expect = some ⟨xo_LineReader_expect, xd_LineReader_expect, .func (PySem.W.fnOf "expect" "LineReader.expect" (defArgs s_LineReader_expect) (defBody s_LineReader_expect) (defScope s_LineReader_expect) .none xk_LineReader_expect xc_LineReader_expect xp_LineReader_expect xa_LineReader_expect xe_LineReader_expect xt_LineReader_expect), xs_LineReader_expect⟩)
   (D_LineReader_expect : PySem.W.codeIn K xe_LineReader_expect "LineReader.expect" = true)
   (P_LineReader_expect : PySem.W.keepIn K (.ref m_LineReader_expect) = true)
   (at_LineReader_head : PySem.W.findIn K (.ref c_LineReader) "head" = some (some (.ref m_LineReader_head)))
   (fn_LineReader_head : PySem.W.isFn K (.ref m_LineReader_head) = true)
   (L_LineReader_head : K.lookup m_LineReader_head = some ⟨xo_LineReader_head, xd_LineReader_head, .func (PySem.W.fnOf "head" "LineReader.head" (defArgs s_LineReader_head) (defBody s_LineReader_head) (defScope s_LineReader_head) .none xk_LineReader_head xc_LineReader_head xp_LineReader_head xa_LineReader_head xe_LineReader_head xt_LineReader_head), xs_LineReader_head⟩)
   (D_LineReader_head : PySem.W.codeIn K xe_LineReader_head "LineReader.head" = true)
   (P_LineReader_head : PySem.W.keepIn K (.ref m_LineReader_head) = true)
   (at_LineReader_inputs_line : PySem.W.findIn K (.ref c_LineReader) "inputs_line" = some (some (.ref m_LineReader_inputs_line)))
   (fn_LineReader_inputs_line : PySem.W.isFn K (.ref m_LineReader_inputs_line) = true)
   (L_LineReader_inputs_line : K.lookup m_LineReader_inputs_line = some ⟨xo_LineReader_inputs_line, xd_LineReader_inputs_line, .func (PySem.W.fnOf "inputs_line" "LineReader.inputs_line" (defArgs s_LineReader_inputs_line) (defBody s_LineReader_inputs_line) (defScope s_LineReader_inputs_line) .none xk_LineReader_inputs_line xc_LineReader_inputs_line xp_LineReader_inputs_line xa_LineReader_inputs_line xe_LineReader_inputs_line xt_LineReader_inputs_line), xs_LineReader_inputs_line⟩)
   (D_LineReader_inputs_line : PySem.W.codeIn K xe_LineReader_inputs_line "LineReader.inputs_line" = true)
   (P_LineReader_inputs_line : PySem.W.keepIn K (.ref m_LineReader_inputs_line) = true)
   (at_LineReader_block : PySem.W.findIn K (.ref c_LineReader) "block" = some (some (.ref m_LineReader_block)))
   (fn_LineReader_block : PySem.W.isFn K (.ref m_LineReader_block) = true)
   (L_LineReader_block : K.lookup m_LineReader_block = some ⟨xo_LineReader_block, xd_LineReader_block, .func (PySem.W.fnOf "block" "LineReader.block" (defArgs s_LineReader_block) (defBody s_LineReader_block) (defScope s_LineReader_block) .none xk_LineReader_block xc_LineReader_block xp_LineReader_block xa_LineReader_block xe_LineReader_block xt_LineReader_block), xs_LineReader_block⟩)
   (D_LineReader_block : PySem.W.codeIn K xe_LineReader_block "LineReader.block" = true)
   (P_LineReader_block : PySem.W.keepIn K (.ref m_LineReader_block) = true)
   (at_LineReader_row : PySem.W.findIn K (.ref c_LineReader) "row" = some (some (.ref m_LineReader_row)))
   (fn_LineReader_row : PySem.W.isFn K (.ref m_LineReader_row) = true)
   (L_LineReader_row : K.lookup m_LineReader_row = some ⟨xo_LineReader_row, xd_LineReader_row, .func (PySem.W.fnOf "row" "LineReader.row" (defArgs s_LineReader_row) (defBody s_LineReader_row) (defScope s_LineReader_row) .none xk_LineReader_row xc_LineReader_row xp_LineReader_row xa_LineReader_row xe_LineReader_row xt_LineReader_row), xs_LineReader_row⟩)
   (D_LineReader_row : PySem.W.codeIn K xe_LineReader_row "LineReader.row" = true)
   (P_LineReader_row : PySem.W.keepIn K (.ref m_LineReader_row) = true)
   (pi_ha : PySem.W.findIn K (.ref c_Program) "__class__" = some (some (.builtin "object.__class__")))
   (pi_hm : PySem.W.mroIn K c_Program (.type "object") = some true)
   (pi_ty : PySem.W.typeIn K (.ref c_Program) = some (.type "type"))
   (pi_ic : PySem.W.isClsIn K c_Program = true)
   : ∃ fd : FuncData, (∀ (s : Shared) (v : Value), BindsTo s fd ⟨[v], []⟩ [("_law_script", v)]) ∧ ∀ base : Heap, K.In base → base.Ns mainGlobals mg → FnOk PP w K mg base CX0 31 fa fd ["_law_script"] (spLaw K) := by
 have e := hfa.symm.trans (PySem.W.mg_of X G A_law)
 cases e
 have X_InvalidProgram : XCls PP K c_InvalidProgram := ⟨⟨_, _, _, _, _, _, _, _, _, _, _, _, _, _, _, l_InvalidProgram, rfl⟩, sa_InvalidProgram, su_InvalidProgram, opq, sg, by decide +kernel⟩
 have Y_InvalidProgram : XFn PP K c_InvalidProgram i_InvalidProgram "InvalidProgram.__init__" (defArgs s_InvalidProgram___init__) (defBody s_InvalidProgram___init__) (defScope s_InvalidProgram___init__) := ⟨⟨_, _, _, _, _, _, _, _, _, _, _, _, _, _, _, _, _, _, _, lf_InvalidProgram, cf_InvalidProgram, lc_InvalidProgram, ld_InvalidProgram, v2_InvalidProgram, fe_InvalidProgram⟩, ii_InvalidProgram, ti_InvalidProgram⟩
 have xm_InvalidProgram := Xm_InvalidProgram (w := w) X_InvalidProgram Y_InvalidProgram no_part_InvalidProgram no_path_InvalidProgram
 have ex_InvalidProgram := exm_own hs_InvalidProgram ic_InvalidProgram ty_InvalidProgram ss_InvalidProgram
 have xf_InvalidProgram : XfC K c_InvalidProgram := ⟨hg_InvalidProgram, hk_InvalidProgram, hs_InvalidProgram, hd_InvalidProgram⟩
 have X_InvalidHistory : XCls PP K c_InvalidHistory := ⟨⟨_, _, _, _, _, _, _, _, _, _, _, _, _, _, _, l_InvalidHistory, rfl⟩, sa_InvalidHistory, su_InvalidHistory, opq, sg, by decide +kernel⟩
 have Y_InvalidHistory : XFn PP K c_InvalidHistory i_InvalidHistory "InvalidHistory.__init__" (defArgs s_InvalidHistory___init__) (defBody s_InvalidHistory___init__) (defScope s_InvalidHistory___init__) := ⟨⟨_, _, _, _, _, _, _, _, _, _, _, _, _, _, _, _, _, _, _, lf_InvalidHistory, cf_InvalidHistory, lc_InvalidHistory, ld_InvalidHistory, v2_InvalidHistory, fe_InvalidHistory⟩, ii_InvalidHistory, ti_InvalidHistory⟩
 have xm_InvalidHistory := Xm_InvalidHistory (w := w) X_InvalidHistory Y_InvalidHistory no_at_InvalidHistory
 have ex_InvalidHistory := exm_own hs_InvalidHistory ic_InvalidHistory ty_InvalidHistory ss_InvalidHistory
 have xf_InvalidHistory : XfC K c_InvalidHistory := ⟨hg_InvalidHistory, hk_InvalidHistory, hs_InvalidHistory, hd_InvalidHistory⟩
 have X_InvalidText : XCls PP K c_InvalidText := ⟨⟨_, _, _, _, _, _, _, _, _, _, _, _, _, _, _, l_InvalidText, rfl⟩, sa_InvalidText, su_InvalidText, opq, sg, by decide +kernel⟩
 have Y_InvalidText : XFn PP K c_InvalidText i_InvalidText "InvalidText.__init__" (defArgs s_InvalidText___init__) (defBody s_InvalidText___init__) (defScope s_InvalidText___init__) := ⟨⟨_, _, _, _, _, _, _, _, _, _, _, _, _, _, _, _, _, _, _, lf_InvalidText, cf_InvalidText, lc_InvalidText, ld_InvalidText, v2_InvalidText, fe_InvalidText⟩, ii_InvalidText, ti_InvalidText⟩
 have xm_InvalidText := Xm_InvalidText (w := w) X_InvalidText Y_InvalidText no_line_InvalidText
 have ex_InvalidText := exm_own hs_InvalidText ic_InvalidText ty_InvalidText ss_InvalidText
 have xf_InvalidText : XfC K c_InvalidText := ⟨hg_InvalidText, hk_InvalidText, hs_InvalidText, hd_InvalidText⟩
 have X_InvalidArgument : XCls PP K c_InvalidArgument := ⟨⟨_, _, _, _, _, _, _, _, _, _, _, _, _, _, _, l_InvalidArgument, rfl⟩, sa_InvalidArgument, su_InvalidArgument, opq, sg, by decide +kernel⟩
 have Y_InvalidArgument : XFn PP K c_InvalidArgument i_InvalidArgument "InvalidArgument.__init__" (defArgs s_InvalidArgument___init__) (defBody s_InvalidArgument___init__) (defScope s_InvalidArgument___init__) := ⟨⟨_, _, _, _, _, _, _, _, _, _, _, _, _, _, _, _, _, _, _, lf_InvalidArgument, cf_InvalidArgument, lc_InvalidArgument, ld_InvalidArgument, v2_InvalidArgument, fe_InvalidArgument⟩, ii_InvalidArgument, ti_InvalidArgument⟩
 have xm_InvalidArgument := Xm_InvalidArgument (w := w) X_InvalidArgument Y_InvalidArgument no_part_InvalidArgument
 have ex_InvalidArgument := exm_own hs_InvalidArgument ic_InvalidArgument ty_InvalidArgument ss_InvalidArgument
 have xf_InvalidArgument : XfC K c_InvalidArgument := ⟨hg_InvalidArgument, hk_InvalidArgument, hs_InvalidArgument, hd_InvalidArgument⟩
 have xh_InvalidProgram : XAsk K c_InvalidProgram := ⟨hg_InvalidProgram, hk_InvalidProgram, hs_InvalidProgram, hd_InvalidProgram, xc_InvalidProgram, xa2, xa3, xm4_InvalidProgram⟩
 have xh_InvalidHistory : XAsk K c_InvalidHistory := ⟨hg_InvalidHistory, hk_InvalidHistory, hs_InvalidHistory, hd_InvalidHistory, xc_InvalidHistory, xa2, xa3, xm4_InvalidHistory⟩
 have xh_InvalidText : XAsk K c_InvalidText := ⟨hg_InvalidText, hk_InvalidText, hs_InvalidText, hd_InvalidText, xc_InvalidText, xa2, xa3, xm4_InvalidText⟩
 have xh_InvalidArgument : XAsk K c_InvalidArgument := ⟨hg_InvalidArgument, hk_InvalidArgument, hs_InvalidArgument, hd_InvalidArgument, xc_InvalidArgument, xa2, xa3, xm4_InvalidArgument⟩
 have kAR : PySem.W.kitOne K (.ref c_InvalidArgument) (.ref c_RunError) = some false := kit_own kARn ic_RunError ty_RunError kARs
 have kAT : PySem.W.kitOne K (.ref c_InvalidArgument) (.ref c_InvalidText) = some false := kit_own kATn ic_InvalidText ty_InvalidText kATs
 have kHN : PySem.W.kitOne K (.ref c_InvalidHistory) (.ref c_InputError) = some true := kit_own kHNn ic_InputError ty_InputError kHNs
 have kHT : PySem.W.kitOne K (.ref c_InvalidHistory) (.ref c_InvalidText) = some false := kit_own kHTn ic_InvalidText ty_InvalidText kHTs
 have kTN : PySem.W.kitOne K (.ref c_InvalidText) (.ref c_InputError) = some true := kit_own kTNn ic_InputError ty_InputError kTNs
 have kTR : PySem.W.kitOne K (.ref c_InvalidText) (.ref c_RunError) = some false := kit_own kTRn ic_RunError ty_RunError kTRs
 have kIN : PySem.W.kitOne K (.ref c_InvalidProgram) (.ref c_InputError) = some true := kit_own kINn ic_InputError ty_InputError kINs
 have eHA : PySem.W.exmOne K (.ref c_InvalidHistory) (.ref c_InvalidArgument) = some false := exm_two hs_InvalidArgument ic_InvalidArgument ty_InvalidArgument eHAs
 have eTA : PySem.W.exmOne K (.ref c_InvalidText) (.ref c_InvalidArgument) = some false := exm_two hs_InvalidArgument ic_InvalidArgument ty_InvalidArgument eTAs
 have eTH : PySem.W.exmOne K (.ref c_InvalidText) (.ref c_InvalidHistory) = some false := exm_two hs_InvalidHistory ic_InvalidHistory ty_InvalidHistory eTHs
 have eIA : PySem.W.exmOne K (.ref c_InvalidProgram) (.ref c_InvalidArgument) = some false := exm_two hs_InvalidArgument ic_InvalidArgument ty_InvalidArgument eIAs
 have eIH : PySem.W.exmOne K (.ref c_InvalidProgram) (.ref c_InvalidHistory) = some false := exm_two hs_InvalidHistory ic_InvalidHistory ty_InvalidHistory eIHs
 have eIT : PySem.W.exmOne K (.ref c_InvalidProgram) (.ref c_InvalidText) = some false := exm_two hs_InvalidText ic_InvalidText ty_InvalidText eITs
 have F_is_integer := fun_mk (st := s_is_integer) L_is_integer D_is_integer P_is_integer
 have B_is_integer := F_is_integer.binds (ps := ["value"]) fun _ _ _ _ _ _ us hl => match us, hl with | [_], _ => rfl
 have F_is_word := fun_mk (st := s_is_word) L_is_word D_is_word P_is_word
 have B_is_word := F_is_word.binds (ps := ["value"]) fun _ _ _ _ _ _ us hl => match us, hl with | [_], _ => rfl
 have F_are_words := fun_mk (st := s_are_words) L_are_words D_are_words P_are_words
 have B_are_words := F_are_words.binds (ps := ["value", "most"]) fun _ _ _ _ _ _ us hl => match us, hl with | [_, _], _ => rfl
 have F_is_branches := fun_mk (st := s_is_branches) L_is_branches D_is_branches P_is_branches
 have B_is_branches := F_is_branches.binds (ps := ["value"]) fun _ _ _ _ _ _ us hl => match us, hl with | [_], _ => rfl
 have F_inner_lists := fun_mk (st := s_inner_lists) L_inner_lists D_inner_lists P_inner_lists
 have B_inner_lists := F_inner_lists.binds (ps := ["row"]) fun _ _ _ _ _ _ us hl => match us, hl with | [_], _ => rfl
 have F_with_lists := fun_mk (st := s_with_lists) L_with_lists D_with_lists P_with_lists
 have B_with_lists := F_with_lists.binds (ps := ["row", "lists"]) fun _ _ _ _ _ _ us hl => match us, hl with | [_, _], _ => rfl
 have F_copy_row := fun_mk (st := s_copy_row) L_copy_row D_copy_row P_copy_row
 have B_copy_row := F_copy_row.binds (ps := ["row"]) fun _ _ _ _ _ _ us hl => match us, hl with | [_], _ => rfl
 have F_copy_rows := fun_mk (st := s_copy_rows) L_copy_rows D_copy_rows P_copy_rows
 have B_copy_rows := F_copy_rows.binds (ps := ["rows"]) fun _ _ _ _ _ _ us hl => match us, hl with | [_], _ => rfl
 have F_checked_asks := fun_mk (st := s_checked_asks) L_checked_asks D_checked_asks P_checked_asks
 have B_checked_asks := F_checked_asks.binds (ps := ["value"]) fun _ _ _ _ _ _ us hl => match us, hl with | [_], _ => rfl
 have F_is_box := fun_mk (st := s_is_box) L_is_box D_is_box P_is_box
 have B_is_box := F_is_box.binds (ps := ["value"]) fun _ _ _ _ _ _ us hl => match us, hl with | [_], _ => rfl
 have F_checked_signals := fun_mk (st := s_checked_signals) L_checked_signals D_checked_signals P_checked_signals
 have B_checked_signals := F_checked_signals.binds (ps := ["value"]) fun _ _ _ _ _ _ us hl => match us, hl with | [_], _ => rfl
 have F_checked_inputs := fun_mk (st := s_checked_inputs) L_checked_inputs D_checked_inputs P_checked_inputs
 have B_checked_inputs := F_checked_inputs.binds (ps := ["value"]) fun _ _ _ _ _ _ us hl => match us, hl with | [_], _ => rfl
 have F_has_form := fun_mk (st := s_has_form) L_has_form D_has_form P_has_form
 have B_has_form := F_has_form.binds (ps := ["token"]) fun _ _ _ _ _ _ us hl => match us, hl with | [_], _ => rfl
 have F_is_outer := fun_mk (st := s_is_outer) L_is_outer D_is_outer P_is_outer
 have B_is_outer := F_is_outer.binds (ps := ["token"]) fun _ _ _ _ _ _ us hl => match us, hl with | [_], _ => rfl
 have F_suits_things := fun_mk (st := s_suits_things) L_suits_things D_suits_things P_suits_things
 have B_suits_things := F_suits_things.binds (ps := ["token", "things"]) fun _ _ _ _ _ _ us hl => match us, hl with | [_, _], _ => rfl
 have F_enter_token := fun_mk (st := s_enter_token) L_enter_token D_enter_token P_enter_token
 have B_enter_token := F_enter_token.binds (ps := ["token", "things"]) fun _ _ _ _ _ _ us hl => match us, hl with | [_, _], _ => rfl
 have F_check_tokens := fun_mk (st := s_check_tokens) L_check_tokens D_check_tokens P_check_tokens
 have B_check_tokens := F_check_tokens.binds (ps := ["history"]) fun _ _ _ _ _ _ us hl => match us, hl with | [_], _ => rfl
 have F_split_turns := fun_mk (st := s_split_turns) L_split_turns D_split_turns P_split_turns
 have B_split_turns := F_split_turns.binds (ps := ["history"]) fun _ _ _ _ _ _ us hl => match us, hl with | [_], _ => rfl
 have F_check := fun_mk (st := s_check) L_check D_check P_check
 have B_check := F_check.binds (ps := ["history"]) fun _ _ _ _ _ _ us hl => match us, hl with | [_], _ => rfl
 have F_check_program := fun_mk (st := s_check_program) L_check_program D_check_program P_check_program
 have B_check_program := F_check_program.binds (ps := ["value", "part"]) fun _ _ _ _ _ _ us hl => match us, hl with | [_, _], _ => rfl
 have F_program_text := fun_mk (st := s_program_text) L_program_text D_program_text P_program_text
 have B_program_text := F_program_text.binds (ps := ["program"]) fun _ _ _ _ _ _ us hl => match us, hl with | [_], _ => rfl
 have F_line_parts := fun_mk (st := s_line_parts) L_line_parts D_line_parts P_line_parts
 have B_line_parts := F_line_parts.binds (ps := ["line"]) fun _ _ _ _ _ _ us hl => match us, hl with | [_], _ => rfl
 have F_row_form := fun_mk (st := s_row_form) L_row_form D_row_form P_row_form
 have B_row_form := F_row_form.binds (ps := ["words"]) fun _ _ _ _ _ _ us hl => match us, hl with | [_], _ => rfl
 have F_all_words := fun_mk (st := s_all_words) L_all_words D_all_words P_all_words
 have B_all_words := F_all_words.binds (ps := ["words"]) fun _ _ _ _ _ _ us hl => match us, hl with | [_], _ => rfl
 have F_read_program := fun_mk (st := s_read_program) L_read_program D_read_program P_read_program
 have B_read_program := F_read_program.binds (ps := ["text"]) fun _ _ _ _ _ _ us hl => match us, hl with | [_], _ => rfl
 have F_history_text := fun_mk (st := s_history_text) L_history_text D_history_text P_history_text
 have B_history_text := F_history_text.binds (ps := ["history"]) fun _ _ _ _ _ _ us hl => match us, hl with | [_], _ => rfl
 have F_number_like := fun_mk (st := s_number_like) L_number_like D_number_like P_number_like
 have B_number_like := F_number_like.binds (ps := ["text"]) fun _ _ _ _ _ _ us hl => match us, hl with | [_], _ => rfl
 have F_token_of := fun_mk (st := s_token_of) L_token_of D_token_of P_token_of
 have B_token_of := F_token_of.binds (ps := ["line"]) fun _ _ _ _ _ _ us hl => match us, hl with | [_], _ => rfl
 have F_read_history := fun_mk (st := s_read_history) L_read_history D_read_history P_read_history
 have B_read_history := F_read_history.binds (ps := ["text"]) fun _ _ _ _ _ _ us hl => match us, hl with | [_], _ => rfl
 have F__law_pool := fun_mk (st := s__law_pool) L__law_pool D__law_pool P__law_pool
 have B__law_pool := F__law_pool.binds (ps := ["_law_script", "_law_k"]) fun _ _ _ _ _ _ us hl => match us, hl with | [_, _], _ => rfl
 have F__law_draw := fun_mk (st := s__law_draw) L__law_draw D__law_draw P__law_draw
 have B__law_draw := F__law_draw.binds (ps := ["_law_pool_here", "_law_many"]) fun _ _ _ _ _ _ us hl => match us, hl with | [_, _], _ => rfl
 have F__law_item := fun_mk (st := s__law_item) L__law_item D__law_item P__law_item
 have B__law_item := F__law_item.binds (ps := ["_law_pool_here", "_law_items"]) fun _ _ _ _ _ _ us hl => match us, hl with | [_, _], _ => rfl
 have F__law_call := fun_mk (st := s__law_call) L__law_call D__law_call P__law_call
 have B__law_call := F__law_call.binds (ps := ["_law_number", "_law_value"]) fun _ _ _ _ _ _ us hl => match us, hl with | [_, _], _ => rfl
 have F__law_nested := fun_mk (st := s__law_nested) L__law_nested D__law_nested P__law_nested
 have B__law_nested := F__law_nested.binds (ps := ["_law_pool_here", "_law_deep"]) fun _ _ _ _ _ _ us hl => match us, hl with | [_, _], _ => rfl
 have F__law_nested_due := fun_mk (st := s__law_nested_due) L__law_nested_due D__law_nested_due P__law_nested_due
 have B__law_nested_due := F__law_nested_due.binds (ps := ["_law_lines", "_law_path", "_law_deep"]) fun _ _ _ _ _ _ us hl => match us, hl with | [_, _, _], _ => rfl
 have F_law := fun_mk (st := s_law) L_law D_law P_law
 have B_law := F_law.binds (ps := ["_law_script"]) fun _ _ _ _ _ _ us hl => match us, hl with | [_], _ => rfl
 have cls_RowCheck : Cls K c_RowCheck := ⟨c1_RowCheck, c2_RowCheck, c3_RowCheck, c4_RowCheck⟩
 have F_RowCheck___init__ := fun_mk (st := s_RowCheck___init__) L_RowCheck___init__ D_RowCheck___init__ P_RowCheck___init__
 have B_RowCheck___init__ := F_RowCheck___init__.binds (ps := ["self", "asks", "signals", "with_edits"]) fun _ _ _ _ _ _ us hl => match us, hl with | [_, _, _, _], _ => rfl
 have M_RowCheck : Mk K c_RowCheck m_RowCheck___init__ := ⟨mk_RowCheck, at_RowCheck___init__, fn_RowCheck___init__, kp_RowCheck⟩
 have F_RowCheck_check := fun_mk (st := s_RowCheck_check) L_RowCheck_check D_RowCheck_check P_RowCheck_check
 have B_RowCheck_check := F_RowCheck_check.binds (ps := ["self", "rows"]) fun _ _ _ _ _ _ us hl => match us, hl with | [_, _], _ => rfl
 have M_RowCheck_check : Meth K c_RowCheck "check" m_RowCheck_check := ⟨at_RowCheck_check, fn_RowCheck_check, P_RowCheck_check⟩
 have F_RowCheck_check_sizes := fun_mk (st := s_RowCheck_check_sizes) L_RowCheck_check_sizes D_RowCheck_check_sizes P_RowCheck_check_sizes
 have B_RowCheck_check_sizes := F_RowCheck_check_sizes.binds (ps := ["self"]) fun _ _ _ _ _ _ us hl => match us, hl with | [_], _ => rfl
 have M_RowCheck_check_sizes : Meth K c_RowCheck "check_sizes" m_RowCheck_check_sizes := ⟨at_RowCheck_check_sizes, fn_RowCheck_check_sizes, P_RowCheck_check_sizes⟩
 have F_RowCheck_check_list := fun_mk (st := s_RowCheck_check_list) L_RowCheck_check_list D_RowCheck_check_list P_RowCheck_check_list
 have B_RowCheck_check_list := F_RowCheck_check_list.binds (ps := ["self", "rows", "prefix", "depth", "in_loop"]) fun _ _ _ _ _ _ us hl => match us, hl with | [_, _, _, _, _], _ => rfl
 have M_RowCheck_check_list : Meth K c_RowCheck "check_list" m_RowCheck_check_list := ⟨at_RowCheck_check_list, fn_RowCheck_check_list, P_RowCheck_check_list⟩
 have F_RowCheck_fits := fun_mk (st := s_RowCheck_fits) L_RowCheck_fits D_RowCheck_fits P_RowCheck_fits
 have B_RowCheck_fits := F_RowCheck_fits.binds (ps := ["self", "row", "depth", "in_loop"]) fun _ _ _ _ _ _ us hl => match us, hl with | [_, _, _, _], _ => rfl
 have M_RowCheck_fits : Meth K c_RowCheck "fits" m_RowCheck_fits := ⟨at_RowCheck_fits, fn_RowCheck_fits, P_RowCheck_fits⟩
 have F_RowCheck_id_fits := fun_mk (st := s_RowCheck_id_fits) L_RowCheck_id_fits D_RowCheck_id_fits P_RowCheck_id_fits
 have B_RowCheck_id_fits := F_RowCheck_id_fits.binds (ps := ["self", "row"]) fun _ _ _ _ _ _ us hl => match us, hl with | [_, _], _ => rfl
 have M_RowCheck_id_fits : Meth K c_RowCheck "id_fits" m_RowCheck_id_fits := ⟨at_RowCheck_id_fits, fn_RowCheck_id_fits, P_RowCheck_id_fits⟩
 have F_RowCheck_part_fits := fun_mk (st := s_RowCheck_part_fits) L_RowCheck_part_fits D_RowCheck_part_fits P_RowCheck_part_fits
 have B_RowCheck_part_fits := F_RowCheck_part_fits.binds (ps := ["self", "code", "part"]) fun _ _ _ _ _ _ us hl => match us, hl with | [_, _, _], _ => rfl
 have M_RowCheck_part_fits : Meth K c_RowCheck "part_fits" m_RowCheck_part_fits := ⟨at_RowCheck_part_fits, fn_RowCheck_part_fits, P_RowCheck_part_fits⟩
 have F_RowCheck_collect := fun_mk (st := s_RowCheck_collect) L_RowCheck_collect D_RowCheck_collect P_RowCheck_collect
 have B_RowCheck_collect := F_RowCheck_collect.binds (ps := ["self", "row"]) fun _ _ _ _ _ _ us hl => match us, hl with | [_, _], _ => rfl
 have M_RowCheck_collect : Meth K c_RowCheck "collect" m_RowCheck_collect := ⟨at_RowCheck_collect, fn_RowCheck_collect, P_RowCheck_collect⟩
 have cls_Program : Cls K c_Program := ⟨c1_Program, c2_Program, c3_Program, c4_Program⟩
 have F_Program___init__ := fun_mk (st := s_Program___init__) L_Program___init__ D_Program___init__ P_Program___init__
 have M_Program : Mk K c_Program m_Program___init__ := ⟨mk_Program, at_Program___init__, fn_Program___init__, kp_Program⟩
 have F_Program_add_rows := fun_mk (st := s_Program_add_rows) L_Program_add_rows D_Program_add_rows P_Program_add_rows
 have B_Program_add_rows := F_Program_add_rows.binds (ps := ["self", "rows", "prefix"]) fun _ _ _ _ _ _ us hl => match us, hl with | [_, _, _], _ => rfl
 have M_Program_add_rows : Meth K c_Program "add_rows" m_Program_add_rows := ⟨at_Program_add_rows, fn_Program_add_rows, P_Program_add_rows⟩
 have cls_LineReader : Cls K c_LineReader := ⟨c1_LineReader, c2_LineReader, c3_LineReader, c4_LineReader⟩
 have F_LineReader___init__ := fun_mk (st := s_LineReader___init__) L_LineReader___init__ D_LineReader___init__ P_LineReader___init__
 have B_LineReader___init__ := F_LineReader___init__.binds (ps := ["self", "text"]) fun _ _ _ _ _ _ us hl => match us, hl with | [_, _], _ => rfl
 have M_LineReader : Mk K c_LineReader m_LineReader___init__ := ⟨mk_LineReader, at_LineReader___init__, fn_LineReader___init__, kp_LineReader⟩
 have F_LineReader_peek := fun_mk (st := s_LineReader_peek) L_LineReader_peek D_LineReader_peek P_LineReader_peek
 have B_LineReader_peek := F_LineReader_peek.binds (ps := ["self"]) fun _ _ _ _ _ _ us hl => match us, hl with | [_], _ => rfl
 have M_LineReader_peek : Meth K c_LineReader "peek" m_LineReader_peek := ⟨at_LineReader_peek, fn_LineReader_peek, P_LineReader_peek⟩
 have F_LineReader_expect := fun_mk (st := s_LineReader_expect) L_LineReader_expect D_LineReader_expect P_LineReader_expect
 have B_LineReader_expect := F_LineReader_expect.binds (ps := ["self", "level", "word"]) fun _ _ _ _ _ _ us hl => match us, hl with | [_, _, _], _ => rfl
 have M_LineReader_expect : Meth K c_LineReader "expect" m_LineReader_expect := ⟨at_LineReader_expect, fn_LineReader_expect, P_LineReader_expect⟩
 have F_LineReader_head := fun_mk (st := s_LineReader_head) L_LineReader_head D_LineReader_head P_LineReader_head
 have B_LineReader_head := F_LineReader_head.binds (ps := ["self", "kind", "least"]) fun _ _ _ _ _ _ us hl => match us, hl with | [_, _, _], _ => rfl
 have M_LineReader_head : Meth K c_LineReader "head" m_LineReader_head := ⟨at_LineReader_head, fn_LineReader_head, P_LineReader_head⟩
 have F_LineReader_inputs_line := fun_mk (st := s_LineReader_inputs_line) L_LineReader_inputs_line D_LineReader_inputs_line P_LineReader_inputs_line
 have B_LineReader_inputs_line := F_LineReader_inputs_line.binds (ps := ["self"]) fun _ _ _ _ _ _ us hl => match us, hl with | [_], _ => rfl
 have M_LineReader_inputs_line : Meth K c_LineReader "inputs_line" m_LineReader_inputs_line := ⟨at_LineReader_inputs_line, fn_LineReader_inputs_line, P_LineReader_inputs_line⟩
 have F_LineReader_block := fun_mk (st := s_LineReader_block) L_LineReader_block D_LineReader_block P_LineReader_block
 have B_LineReader_block := F_LineReader_block.binds (ps := ["self", "level"]) fun _ _ _ _ _ _ us hl => match us, hl with | [_, _], _ => rfl
 have M_LineReader_block : Meth K c_LineReader "block" m_LineReader_block := ⟨at_LineReader_block, fn_LineReader_block, P_LineReader_block⟩
 have F_LineReader_row := fun_mk (st := s_LineReader_row) L_LineReader_row D_LineReader_row P_LineReader_row
 have B_LineReader_row := F_LineReader_row.binds (ps := ["self", "level", "words"]) fun _ _ _ _ _ _ us hl => match us, hl with | [_, _, _], _ => rfl
 have M_LineReader_row : Meth K c_LineReader "row" m_LineReader_row := ⟨at_LineReader_row, fn_LineReader_row, P_LineReader_row⟩
 have T0 : Txt mg := { b_len := PySem.W.mg_none_of X G z_len, b_int := PySem.W.mg_none_of X G z_int, b_bool := PySem.W.mg_none_of X G z_bool, b_str := PySem.W.mg_none_of X G z_str, b_list := PySem.W.mg_none_of X G z_list, b_tuple := PySem.W.mg_none_of X G z_tuple, b_dict := PySem.W.mg_none_of X G z_dict, b_set := PySem.W.mg_none_of X G z_set, b_range := PySem.W.mg_none_of X G z_range, b_zip := PySem.W.mg_none_of X G z_zip, b_enumerate := PySem.W.mg_none_of X G z_enumerate, b_sorted := PySem.W.mg_none_of X G z_sorted, b_isinstance := PySem.W.mg_none_of X G z_isinstance, g_LETTERS := ⟨_, PySem.W.mg_of X G z_LETTERS⟩ }
 have TC : TxtC PP w K mg p_SHAPES c_InvalidProgram := { T0 with g_SHAPES := PySem.W.mg_of X G A_SHAPES, w_SHAPES := ⟨_, _, L_SHAPES, E_SHAPES, S_SHAPES⟩, g_MOST_ROWS := ⟨_, PySem.W.mg_of X G z_MOST_ROWS⟩, g_MOST_LABELS := ⟨_, PySem.W.mg_of X G z_MOST_LABELS⟩, g_MOST_SLOTS := ⟨_, PySem.W.mg_of X G z_MOST_SLOTS⟩, g_MOST_GATES := ⟨_, PySem.W.mg_of X G z_MOST_GATES⟩, g_MOST_EDITS := ⟨_, PySem.W.mg_of X G z_MOST_EDITS⟩, g_DEEPEST := ⟨_, PySem.W.mg_of X G z_DEEPEST_checks⟩, g_InvalidProgram := PySem.W.mg_of X G A_InvalidProgram, k_InvalidProgram := kp_InvalidProgram, mk_InvalidProgram := xm_InvalidProgram.1, r_InvalidProgram := fun _ _ k => ⟨PySem.W.looks_subIn k hs_InvalidProgram, PySem.W.looks_typeIn k ty_InvalidProgram⟩ }
 have T : TxtH PP w K mg p_FORMS p_OUTER p_NUMBERED p_LAST c_InvalidHistory c_InvalidArgument := { T0 with g_FORMS := PySem.W.mg_of X G A_FORMS, w_FORMS := ⟨_, _, L_FORMS, E_FORMS, S_FORMS⟩, g_OUTER := PySem.W.mg_of X G A_OUTER, g_NUMBERED := PySem.W.mg_of X G A_NUMBERED, g_LAST := PySem.W.mg_of X G A_LAST, s_OUTER := fun _ => .inr ⟨_, _, _, L_OUTER, rfl, rfl, sz_lit (by show 4 ≤ 100000; decide), (.cons ⟨_, rfl⟩ (.cons ⟨_, rfl⟩ (.cons ⟨_, rfl⟩ (.cons ⟨_, rfl⟩ .nil))))⟩, s_NUMBERED := fun _ => .inr ⟨_, _, _, L_NUMBERED, rfl, rfl, sz_lit (by show 3 ≤ 100000; decide), (.cons ⟨_, rfl⟩ (.cons ⟨_, rfl⟩ (.cons ⟨_, rfl⟩ .nil)))⟩, s_LAST := fun _ => .inr ⟨_, _, _, L_LAST, rfl, rfl, sz_lit (by show 2 ≤ 100000; decide), (.cons ⟨_, rfl⟩ (.cons ⟨_, rfl⟩ .nil))⟩, g_InvalidHistory := PySem.W.mg_of X G A_InvalidHistory, k_InvalidHistory := kp_InvalidHistory, mk_InvalidHistory := xm_InvalidHistory.1, r_InvalidHistory := fun _ _ k => ⟨PySem.W.looks_subIn k hs_InvalidHistory, PySem.W.looks_typeIn k ty_InvalidHistory⟩, g_InvalidArgument := PySem.W.mg_of X G A_InvalidArgument, k_InvalidArgument := kp_InvalidArgument, mk_InvalidArgument := xm_InvalidArgument.1, r_InvalidArgument := fun _ _ k => ⟨PySem.W.looks_subIn k hs_InvalidArgument, PySem.W.looks_typeIn k ty_InvalidArgument⟩ }
 have TT0 : TxtT PP w K mg p_OUTER_PARTS p_COMMAND_PARTS c_InvalidText c_InvalidArgument := { T0 with g_OUTER_PARTS := PySem.W.mg_of X G A_OUTER_PARTS, w_OUTER_PARTS := ⟨_, _, L_OUTER_PARTS, E_OUTER_PARTS, S_OUTER_PARTS⟩, g_COMMAND_PARTS := PySem.W.mg_of X G A_COMMAND_PARTS, w_COMMAND_PARTS := ⟨_, _, L_COMMAND_PARTS, E_COMMAND_PARTS, S_COMMAND_PARTS⟩, g_DIGITS := ⟨_, PySem.W.mg_of X G z_DIGITS⟩, g_InvalidText := PySem.W.mg_of X G A_InvalidText, k_InvalidText := kp_InvalidText, mk_InvalidText := xm_InvalidText.1, r_InvalidText := fun _ _ k => ⟨PySem.W.looks_subIn k hs_InvalidText, PySem.W.looks_typeIn k ty_InvalidText⟩, g_InvalidArgument := PySem.W.mg_of X G A_InvalidArgument, k_InvalidArgument := kp_InvalidArgument, mk_InvalidArgument := xm_InvalidArgument.1, r_InvalidArgument := fun _ _ k => ⟨PySem.W.looks_subIn k hs_InvalidArgument, PySem.W.looks_typeIn k ty_InvalidArgument⟩ }
 have TI : TxtI PP w K mg p_OUTER_PARTS p_COMMAND_PARTS c_InvalidText c_InvalidArgument p_SIZES := { TT0 with g_DEEP := ⟨_, PySem.W.mg_of X G z_DEEPEST_texts⟩, g_SIZES := PySem.W.mg_of X G A_SIZES, w_SIZES := ⟨_, _, L_SIZES, E_SIZES, S_SIZES⟩ }
 have rc : RcC K c_RowCheck := ⟨cls_RowCheck, n_RowCheck_known_asks, n_RowCheck_known_signals, n_RowCheck_with_edits, n_RowCheck_total, n_RowCheck_label_words, n_RowCheck_slot_words, n_RowCheck_gate_words, n_RowCheck_edit_words⟩
 have pc : PgC K c_Program := ⟨cls_Program, n_Program_ask_table, n_Program_signal_table, n_Program_input_words, n_Program_row_list, n_Program_label_names, n_Program_slot_names, n_Program_gate_names, n_Program_row_table, n_Program_list_sizes⟩
 have lc : LrC K c_LineReader := ⟨cls_LineReader, n_LineReader_lines, n_LineReader_done⟩
 have pi : PgI K c_Program := ⟨cls_Program, pi_ha, xa2, xa3, pi_hm, pi_ic, pi_ty⟩
 have TK : TxtK PP w K mg p_FORMS p_OUTER p_NUMBERED p_LAST c_InvalidHistory c_InvalidArgument c_Program := { T with g_Program := PySem.W.mg_of X G A_Program, pi := pi }
 have TX : TxtX PP w K mg p_OUTER_PARTS p_COMMAND_PARTS c_InvalidText c_InvalidArgument p_SIZES c_InvalidHistory c_InvalidProgram c_RunError c_InputError c_Program := { TI with g_Program := PySem.W.mg_of X G A_Program, pi := pi, g_InvalidHistory := PySem.W.mg_of X G A_InvalidHistory, g_InvalidProgram := PySem.W.mg_of X G A_InvalidProgram, g_RunError := PySem.W.mg_of X G A_RunError, g_InputError := PySem.W.mg_of X G A_InputError, aA := xh_InvalidArgument, aH := xh_InvalidHistory, aT := xh_InvalidText, aI := xh_InvalidProgram, xA := xf_InvalidArgument, xH := xf_InvalidHistory, xT := xf_InvalidText, xI := xf_InvalidProgram, nA := no_part_InvalidArgument, nH := no_at_InvalidHistory, nT := no_line_InvalidText, nI := no_part_InvalidProgram, nJ := no_path_InvalidProgram, kAR := kAR, kAT := kAT, kHN := kHN, kHT := kHT, kTN := kTN, kTR := kTR, kIN := kIN, eHA := eHA, eTA := eTA, eTH := eTH, eIA := eIA, eIH := eIH, eIT := eIT, eAA := ex_InvalidArgument, eHH := ex_InvalidHistory, eTT := ex_InvalidText, eII := ex_InvalidProgram }
 refine ⟨PySem.W.fnOf "law" "law" (defArgs s_law) (defBody s_law) (defScope s_law) .none xk_law xc_law xp_law xa_law xe_law xt_law, fun s v => .of_eq rfl, fun base _ _ => ?_⟩
 have c_is_integer : Cal PP w K mg base CX0 1 "is_integer" ["value"] (spInt K) := ⟨g_is_integer, _, PySem.W.mg_of X G A_is_integer, P_is_integer, B_is_integer, ok_is_integer F_is_integer T0⟩
 have c_is_word : Cal PP w K mg base CX0 1 "is_word" ["value"] (spWord K) := ⟨g_is_word, _, PySem.W.mg_of X G A_is_word, P_is_word, B_is_word, ok_is_word F_is_word T0⟩
 have c_are_words : Cal PP w K mg base CX0 2 "are_words" ["value", "most"] (spAreWords K) := ⟨g_are_words, _, PySem.W.mg_of X G A_are_words, P_are_words, B_are_words, ok_are_words F_are_words T0 c_is_word⟩
 have c_is_branches : Cal PP w K mg base CX0 1 "is_branches" ["value"] (spBr K) := ⟨g_is_branches, _, PySem.W.mg_of X G A_is_branches, P_is_branches, B_is_branches, ok_is_branches F_is_branches T0⟩
 have c_inner_lists : Cal PP w K mg base CX0 1 "inner_lists" ["row"] (spInner K) := ⟨g_inner_lists, _, PySem.W.mg_of X G A_inner_lists, P_inner_lists, B_inner_lists, ok_inner_lists F_inner_lists T0⟩
 have c_with_lists : Cal PP w K mg base CX0 1 "with_lists" ["row", "lists"] (spWith K) := ⟨g_with_lists, _, PySem.W.mg_of X G A_with_lists, P_with_lists, B_with_lists, ok_with_lists F_with_lists T0⟩
 have c_copy_rows : Cal PP w K mg base CX0 11 "copy_rows" ["rows"] (spCRows K 5) := ok_copies F_copy_rows F_copy_row T0 (PySem.W.mg_of X G A_copy_rows) (PySem.W.mg_of X G A_copy_row) P_copy_rows P_copy_row B_copy_rows B_copy_row c_inner_lists c_with_lists 5
 have c_checked_asks : Cal PP w K mg base (L2.CX PP w) 3 "checked_asks" ["value"] (spTab K c_InvalidProgram "asks" (areWords 4) 6) := ⟨g_checked_asks, _, PySem.W.mg_of X G A_checked_asks, P_checked_asks, B_checked_asks, ok_checked_asks F_checked_asks TC c_is_word c_are_words⟩
 have c_is_box : Cal PP w K mg base CX0 3 "is_box" ["value"] (spBox K) := ⟨g_is_box, _, PySem.W.mg_of X G A_is_box, P_is_box, B_is_box, ok_is_box F_is_box T0 c_is_integer c_are_words⟩
 have c_checked_signals : Cal PP w K mg base (L2.CX PP w) 4 "checked_signals" ["value"] (spTab K c_InvalidProgram "signals" isBox 3) := ⟨g_checked_signals, _, PySem.W.mg_of X G A_checked_signals, P_checked_signals, B_checked_signals, ok_checked_signals F_checked_signals TC c_is_word c_is_box⟩
 have c_checked_inputs : Cal PP w K mg base (L2.CX PP w) 3 "checked_inputs" ["value"] (spInputs K c_InvalidProgram) := ⟨g_checked_inputs, _, PySem.W.mg_of X G A_checked_inputs, P_checked_inputs, B_checked_inputs, ok_checked_inputs F_checked_inputs TC c_are_words⟩
 have m_part_fits : Mcal PP w K mg base CX0 3 c_RowCheck "part_fits" ["self", "code", "part"] (spPF K) := ⟨m_RowCheck_part_fits, _, M_RowCheck_part_fits, B_RowCheck_part_fits, ok_part_fits F_RowCheck_part_fits T0 c_is_word c_are_words c_is_branches⟩
 have m_id_fits : Mcal PP w K mg base CX0 1 c_RowCheck "id_fits" ["self", "row"] (spID K) := ⟨m_RowCheck_id_fits, _, M_RowCheck_id_fits, B_RowCheck_id_fits, ok_id_fits F_RowCheck_id_fits⟩
 have m_collect : Mcal PP w K mg base CX0 1 c_RowCheck "collect" ["self", "row"] (spCol K) := ⟨m_RowCheck_collect, _, M_RowCheck_collect, B_RowCheck_collect, ok_collect F_RowCheck_collect TC⟩
 have m_fits : Mcal PP w K mg base CX0 4 c_RowCheck "fits" ["self", "row", "depth", "in_loop"] (spFits K c_RowCheck) := ⟨m_RowCheck_fits, _, M_RowCheck_fits, B_RowCheck_fits, ok_fits F_RowCheck_fits TC rc m_part_fits m_id_fits⟩
 have m_check_list : Mcal PP w K mg base (L2.CX PP w) 11 c_RowCheck "check_list" ["self", "rows", "prefix", "depth", "in_loop"] (spCL K c_RowCheck c_InvalidProgram 5) := ⟨m_RowCheck_check_list, _, M_RowCheck_check_list, B_RowCheck_check_list, ok_check_list F_RowCheck_check_list TC rc M_RowCheck_check_list B_RowCheck_check_list m_fits m_collect c_inner_lists 5⟩
 have m_check_sizes : Mcal PP w K mg base (L2.CX PP w) 1 c_RowCheck "check_sizes" ["self"] (spSizes K c_RowCheck c_InvalidProgram) := ⟨m_RowCheck_check_sizes, _, M_RowCheck_check_sizes, B_RowCheck_check_sizes, ok_check_sizes F_RowCheck_check_sizes TC rc⟩
 have m_check : Mcal PP w K mg base (L2.CX PP w) 12 c_RowCheck "check" ["self", "rows"] (spCheck K c_RowCheck c_InvalidProgram) := ⟨m_RowCheck_check, _, M_RowCheck_check, B_RowCheck_check, ok_check F_RowCheck_check TC rc m_check_list m_check_sizes⟩
 have k_RowCheck : Kcal PP w K mg base CX0 1 "RowCheck" c_RowCheck ["self", "asks", "signals", "with_edits"] (spRcInit K c_RowCheck) := ⟨m_RowCheck___init__, _, M_RowCheck, PySem.W.mg_of X G A_RowCheck, B_RowCheck___init__, ok_rcinit F_RowCheck___init__ rc⟩
 have c_inner_listsG : Cal PP w K mg base CX0 1 "inner_lists" ["row"] (spInnerG K) := ⟨g_inner_lists, _, PySem.W.mg_of X G A_inner_lists, P_inner_lists, B_inner_lists, ok_inner_listsG F_inner_lists T0⟩
 have m_add_rows : Mcal PP w K mg base CX0 7 c_Program "add_rows" ["self", "rows", "prefix"] (spAdd K c_Program 5) := ⟨m_Program_add_rows, _, M_Program_add_rows, B_Program_add_rows, ok_add_rows F_Program_add_rows T0 pc M_Program_add_rows B_Program_add_rows c_inner_listsG 5⟩
 have k_Program : KcalN PP w K mg base (L2.CX PP w) 13 "Program" c_Program ["self", "rows", "asks", "signals", "inputs"] 1 ["asks", "signals", "inputs"] (spProg K c_Program c_InvalidProgram) := ⟨m_Program___init__, _, fun us ws => us ++ ws, M_Program, PySem.W.mg_of X G A_Program, ⟨fun s us ws _ l1 l2 => match us, l1, ws, l2 with | [_, _], _, [_, _, _], _ => .of_eq rfl, fun r1 r2 => vals_app r1 r2⟩, ok_prog F_Program___init__ TC pc rc c_checked_asks c_checked_signals c_checked_inputs k_RowCheck m_check c_copy_rows m_add_rows⟩
 have c_has_form : Cal PP w K mg base CX0 2 "has_form" ["token"] (spForm K) := ⟨g_has_form, _, PySem.W.mg_of X G A_has_form, P_has_form, B_has_form, ok_has_form F_has_form T c_is_word c_is_integer⟩
 have c_is_outer : Cal PP w K mg base CX0 1 "is_outer" ["token"] (spIsOut K) := ⟨g_is_outer, _, PySem.W.mg_of X G A_is_outer, P_is_outer, B_is_outer, ok_is_outer F_is_outer T⟩
 have c_suits_things : Cal PP w K mg base CX0 1 "suits_things" ["token", "things"] (spSuits K) := ⟨g_suits_things, _, PySem.W.mg_of X G A_suits_things, P_suits_things, B_suits_things, ok_suits F_suits_things T⟩
 have c_enter_token : Cal PP w K mg base CX0 1 "enter_token" ["token", "things"] (spEnter K) := ⟨g_enter_token, _, PySem.W.mg_of X G A_enter_token, P_enter_token, B_enter_token, ok_enter F_enter_token T⟩
 have c_check_tokens : Cal PP w K mg base (L2.CX PP w) 3 "check_tokens" ["history"] (spCheckJ K c_InvalidHistory) := ⟨g_check_tokens, _, PySem.W.mg_of X G A_check_tokens, P_check_tokens, B_check_tokens, ok_check_tokens F_check_tokens T c_has_form c_suits_things c_enter_token⟩
 have c_split_turns : Cal PP w K mg base CX0 2 "split_turns" ["history"] (spSplit K) := ⟨g_split_turns, _, PySem.W.mg_of X G A_split_turns, P_split_turns, B_split_turns, ok_split F_split_turns T c_is_outer⟩
 have c_check : Cal PP w K mg base (L2.CX PP w) 4 "check" ["history"] (spLen K c_InvalidHistory) := ⟨g_check, _, PySem.W.mg_of X G A_check, P_check, B_check, ok_hcheck F_check T0 c_check_tokens c_split_turns⟩
 have c_check_program : Cal PP w K mg base (L2.CX PP w) 1 "check_program" ["value", "part"] (spCkP K c_InvalidArgument c_Program) := ⟨g_check_program, _, PySem.W.mg_of X G A_check_program, P_check_program, B_check_program, ok_check_program F_check_program TK⟩
 have c_program_text : Cal PP w K mg base (L2.CX PP w) 2 "program_text" ["program"] (spPTextX K c_InvalidArgument) := ⟨g_program_text, _, PySem.W.mg_of X G A_program_text, P_program_text, B_program_text, ok_ptextX F_program_text c_check_program⟩
 have c_history_text : Cal PP w K mg base (L2.CX PP w) 5 "history_text" ["history"] (spHTextX K c_InvalidHistory) := ⟨g_history_text, _, PySem.W.mg_of X G A_history_text, P_history_text, B_history_text, ok_htextX F_history_text c_check⟩
 have c_number_like : Cal PP w K mg base CX0 1 "number_like" ["text"] spNumLike := ⟨g_number_like, _, PySem.W.mg_of X G A_number_like, P_number_like, B_number_like, ok_number_like F_number_like TT0⟩
 have c_token_of : Cal PP w K mg base CX0 2 "token_of" ["line"] (spTokenOf K) := ⟨g_token_of, _, PySem.W.mg_of X G A_token_of, P_token_of, B_token_of, ok_token_of F_token_of TT0 c_number_like c_is_word⟩
 have c_read_history : Cal PP w K mg base (L2.CX PP w) 5 "read_history" ["text"] (spReadHX K c_InvalidText c_InvalidArgument) := ⟨g_read_history, _, PySem.W.mg_of X G A_read_history, P_read_history, B_read_history, ok_readHX F_read_history TI c_check c_token_of⟩
 have c_line_parts : Cal PP w K mg base CX0 1 "line_parts" ["line"] (spLineP K) := ⟨g_line_parts, _, PySem.W.mg_of X G A_line_parts, P_line_parts, B_line_parts, ok_line_parts F_line_parts TI⟩
 have c_all_words : Cal PP w K mg base CX0 2 "all_words" ["words"] (spAllW K) := ⟨g_all_words, _, PySem.W.mg_of X G A_all_words, P_all_words, B_all_words, ok_all_words F_all_words TI c_is_word⟩
 have c_row_form : Cal PP w K mg base CX0 3 "row_form" ["words"] (spRowF K) := ⟨g_row_form, _, PySem.W.mg_of X G A_row_form, P_row_form, B_row_form, ok_row_form F_row_form TI c_all_words⟩
 have k_LineReader : Kcal PP w K mg base CX0 1 "LineReader" c_LineReader ["self", "text"] (spLrInit c_LineReader) := ⟨m_LineReader___init__, _, M_LineReader, PySem.W.mg_of X G A_LineReader, B_LineReader___init__, ok_lr_init F_LineReader___init__ lc⟩
 have m_peek : Mcal PP w K mg base (L2.CX PP w) 2 c_LineReader "peek" ["self"] (spPeek K c_LineReader c_InvalidText) := ⟨m_LineReader_peek, _, M_LineReader_peek, B_LineReader_peek, ok_peek F_LineReader_peek TI lc c_line_parts⟩
 have m_expect : Mcal PP w K mg base (L2.CX PP w) 3 c_LineReader "expect" ["self", "level", "word"] (spExp K c_LineReader c_InvalidText) := ⟨m_LineReader_expect, _, M_LineReader_expect, B_LineReader_expect, ok_expect F_LineReader_expect TI lc m_peek⟩
 have m_inputs_line : Mcal PP w K mg base (L2.CX PP w) 3 c_LineReader "inputs_line" ["self"] (spInpL K c_LineReader c_InvalidText) := ⟨m_LineReader_inputs_line, _, M_LineReader_inputs_line, B_LineReader_inputs_line, ok_inputs_line F_LineReader_inputs_line TI lc c_all_words m_peek⟩
 have m_head : Mcal PP w K mg base (L2.CX PP w) 3 c_LineReader "head" ["self", "kind", "least"] (spHead0 K c_LineReader c_InvalidText) := ⟨m_LineReader_head, _, M_LineReader_head, B_LineReader_head, ok_head0 F_LineReader_head TI lc c_all_words m_peek⟩
 have blk : ∀ n, Mcal PP w K mg base (L2.CX PP w) (4 + 2 * n) c_LineReader "block" ["self", "level"] (spBlk K c_LineReader c_InvalidText n) := lr_blocks F_LineReader_row F_LineReader_block TI lc c_row_form m_peek m_expect M_LineReader_row M_LineReader_block B_LineReader_row B_LineReader_block
 have c_read_program : Cal PP w K mg base (L2.CX PP w) 29 "read_program" ["text"] (spReadP K c_InvalidText c_InvalidArgument c_Program c_InvalidProgram) := ⟨g_read_program, _, PySem.W.mg_of X G A_read_program, P_read_program, B_read_program, ok_read_program (kb := 28) (by decide) F_read_program TI lc k_LineReader m_head m_inputs_line m_expect (blk 12) k_Program⟩
 have c__law_pool : Cal PP w K mg base CX0 1 "_law_pool" ["_law_script", "_law_k"] (spPoolM K) := ⟨g__law_pool, _, PySem.W.mg_of X G A__law_pool, P__law_pool, B__law_pool, ok_poolM (ok_poolN F__law_pool T0)⟩
 have c__law_draw : Cal PP w K mg base CX0 1 "_law_draw" ["_law_pool_here", "_law_many"] spDp := ⟨g__law_draw, _, PySem.W.mg_of X G A__law_draw, P__law_draw, B__law_draw, ok_drawP (ok_draw F__law_draw T0)⟩
 have c__law_item : Cal PP w K mg base CX0 2 "_law_item" ["_law_pool_here", "_law_items"] spItemM := ⟨g__law_item, _, PySem.W.mg_of X G A__law_item, P__law_item, B__law_item, ok_litem F__law_item T0 c__law_draw⟩
 have c__law_nested : Cal PP w K mg base CX0 2 "_law_nested" ["_law_pool_here", "_law_deep"] (spNest K) := ⟨g__law_nested, _, PySem.W.mg_of X G A__law_nested, P__law_nested, B__law_nested, ok_lnested F__law_nested TX c__law_draw⟩
 have c__law_nested_due : Cal PP w K mg base CX0 1 "_law_nested_due" ["_law_lines", "_law_path", "_law_deep"] (spDueN K) := ⟨g__law_nested_due, _, PySem.W.mg_of X G A__law_nested_due, P__law_nested_due, B__law_nested_due, ok_ldue F__law_nested_due TX⟩
 have c__law_call : Cal PP w K mg base CX0 30 "_law_call" ["_law_number", "_law_value"] (spCall K) := ⟨g__law_call, _, PySem.W.mg_of X G A__law_call, P__law_call, B__law_call, ok_lcall (kb := 29) (by decide) F__law_call TX c_program_text c_read_program c_read_history c_history_text⟩
 have c_read_program30 : Cal PP w K mg base (L2.CX PP w) 30 "read_program" ["text"] (spReadP K c_InvalidText c_InvalidArgument c_Program c_InvalidProgram) := ⟨g_read_program, _, PySem.W.mg_of X G A_read_program, P_read_program, B_read_program, (ok_read_program (kb := 28) (by decide) F_read_program TI lc k_LineReader m_head m_inputs_line m_expect (blk 12) k_Program).mono (by decide)⟩
 exact ok_law (kb := 30) F_law TX c__law_pool c__law_draw c__law_nested c__law_nested_due c__law_item c__law_call c_read_program30 (by decide)
theorem walk {q : Program} {loose : List Str} {XP : (Str → Option Value) → Heap → Prop} {YP : World → Heap → Prop} {d : DefRec} {K : Params → PySem.W.Frag} (hdf : d.params.defaults = [])
   (hY : ∀ (w : World) (h : Heap), YP w h → (K w.params).In h)
   (F : ∀ (w : World) (mg : Str → Option Value) (fa : Addr) (h : Heap), (K w.params).In h → h.Ns mainGlobals mg → mg d.name = some (.ref fa) →
     ∃ fd : FuncData, (∀ (s : Shared) (u : Value), BindsTo s fd ⟨[u], []⟩ [("_law_script", u)]) ∧ ∀ base : Heap, (K w.params).In base → base.Ns mainGlobals mg → FnOk PP w (K w.params) mg base CX0 31 fa fd ["_law_script"] (spLaw (K w.params))) :
   PySem.W.WalkO q loose XP YP PySem.Challenge.rw_openruns_k24_text_arguments.row.toRowW d [] (fun f vs => PySem.call f vs) :=
 L2.walk_of (l := PySem.Challenge.rw_openruns_k24_text_arguments) (n := 63) (k := 31) (x := "_law_script") (CX := fun _ => CX0) (sp := fun w => spLaw (K w.params)) rfl (by decide) hdf ⟨rfl, by decide, by decide⟩ hY F (fun _ _ a ns hl _ hS => ⟨a, ns, rfl, hS, hl, fun _ => rfl⟩) fun _ _ _ _ _ z => z
end Op
open PySem PySem.W PyProof.Rows
set_option maxRecDepth 100000 in
set_option maxHeartbeats 0 in
theorem PySem.Challenge.cw_openruns_k24_text_arguments_holds : PySem.Challenge.rw_openruns_k24_text_arguments.Holds := by
 w_on; o_law; k_head; (case hw => w_witness2)
 k_fill
 refine Op.walk rfl (fun w h Y => PySem.W.kIn_of Y) ?F
 case F =>
   intro w mg fa h KX G hmg
   refine' Op.all_mk KX G hmg ?z_len ?z_int ?z_bool ?z_str ?z_list ?z_tuple ?z_dict ?z_set ?z_range ?z_zip ?z_enumerate ?z_sorted ?z_isinstance ?z_LETTERS ?z_DIGITS ?z_MOST_ROWS ?z_MOST_LABELS ?z_MOST_SLOTS ?z_MOST_GATES ?z_MOST_EDITS ?z_DEEPEST_checks ?z_DEEPEST_texts ?A_SHAPES ?L_SHAPES ?E_SHAPES ?S_SHAPES ?A_FORMS ?L_FORMS ?E_FORMS ?S_FORMS ?A_OUTER_PARTS ?L_OUTER_PARTS ?E_OUTER_PARTS ?S_OUTER_PARTS ?A_COMMAND_PARTS ?L_COMMAND_PARTS ?E_COMMAND_PARTS ?S_COMMAND_PARTS ?A_SIZES ?L_SIZES ?E_SIZES ?S_SIZES ?A_OUTER ?L_OUTER ?A_NUMBERED ?L_NUMBERED ?A_LAST ?L_LAST ?opq ?sg ?A_InputError ?A_OpenError ?A_RunError ?A_InvalidProgram ?l_InvalidProgram ?sa_InvalidProgram ?su_InvalidProgram ?ii_InvalidProgram ?ti_InvalidProgram ?lf_InvalidProgram ?cf_InvalidProgram ?lc_InvalidProgram ?ld_InvalidProgram ?v2_InvalidProgram ?fe_InvalidProgram ?kp_InvalidProgram ?hg_InvalidProgram ?hk_InvalidProgram ?hs_InvalidProgram ?hd_InvalidProgram ?ty_InvalidProgram ?ic_InvalidProgram ?ss_InvalidProgram ?no_part_InvalidProgram ?no_path_InvalidProgram ?A_InvalidHistory ?l_InvalidHistory ?sa_InvalidHistory ?su_InvalidHistory ?ii_InvalidHistory ?ti_InvalidHistory ?lf_InvalidHistory ?cf_InvalidHistory ?lc_InvalidHistory ?ld_InvalidHistory ?v2_InvalidHistory ?fe_InvalidHistory ?kp_InvalidHistory ?hg_InvalidHistory ?hk_InvalidHistory ?hs_InvalidHistory ?hd_InvalidHistory ?ty_InvalidHistory ?ic_InvalidHistory ?ss_InvalidHistory ?no_at_InvalidHistory ?A_InvalidText ?l_InvalidText ?sa_InvalidText ?su_InvalidText ?ii_InvalidText ?ti_InvalidText ?lf_InvalidText ?cf_InvalidText ?lc_InvalidText ?ld_InvalidText ?v2_InvalidText ?fe_InvalidText ?kp_InvalidText ?hg_InvalidText ?hk_InvalidText ?hs_InvalidText ?hd_InvalidText ?ty_InvalidText ?ic_InvalidText ?ss_InvalidText ?no_line_InvalidText ?A_InvalidArgument ?l_InvalidArgument ?sa_InvalidArgument ?su_InvalidArgument ?ii_InvalidArgument ?ti_InvalidArgument ?lf_InvalidArgument ?cf_InvalidArgument ?lc_InvalidArgument ?ld_InvalidArgument ?v2_InvalidArgument ?fe_InvalidArgument ?kp_InvalidArgument ?hg_InvalidArgument ?hk_InvalidArgument ?hs_InvalidArgument ?hd_InvalidArgument ?ty_InvalidArgument ?ic_InvalidArgument ?ss_InvalidArgument ?no_part_InvalidArgument ?xa2 ?xa3 ?xc_InvalidProgram ?xm4_InvalidProgram ?xc_InvalidHistory ?xm4_InvalidHistory ?xc_InvalidText ?xm4_InvalidText ?xc_InvalidArgument ?xm4_InvalidArgument ?ty_RunError ?ic_RunError ?ty_InputError ?ic_InputError ?kARs ?kARn ?kATs ?kATn ?kHNs ?kHNn ?kHTs ?kHTn ?kTNs ?kTNn ?kTRs ?kTRn ?kINs ?kINn ?eHAs ?eTAs ?eTHs ?eIAs ?eIHs ?eITs ?A_is_integer ?L_is_integer ?D_is_integer ?P_is_integer ?A_is_word ?L_is_word ?D_is_word ?P_is_word ?A_are_words ?L_are_words ?D_are_words ?P_are_words ?A_is_branches ?L_is_branches ?D_is_branches ?P_is_branches ?A_inner_lists ?L_inner_lists ?D_inner_lists ?P_inner_lists ?A_with_lists ?L_with_lists ?D_with_lists ?P_with_lists ?A_copy_row ?L_copy_row ?D_copy_row ?P_copy_row ?A_copy_rows ?L_copy_rows ?D_copy_rows ?P_copy_rows ?A_checked_asks ?L_checked_asks ?D_checked_asks ?P_checked_asks ?A_is_box ?L_is_box ?D_is_box ?P_is_box ?A_checked_signals ?L_checked_signals ?D_checked_signals ?P_checked_signals ?A_checked_inputs ?L_checked_inputs ?D_checked_inputs ?P_checked_inputs ?A_has_form ?L_has_form ?D_has_form ?P_has_form ?A_is_outer ?L_is_outer ?D_is_outer ?P_is_outer ?A_suits_things ?L_suits_things ?D_suits_things ?P_suits_things ?A_enter_token ?L_enter_token ?D_enter_token ?P_enter_token ?A_check_tokens ?L_check_tokens ?D_check_tokens ?P_check_tokens ?A_split_turns ?L_split_turns ?D_split_turns ?P_split_turns ?A_check ?L_check ?D_check ?P_check ?A_check_program ?L_check_program ?D_check_program ?P_check_program ?A_program_text ?L_program_text ?D_program_text ?P_program_text ?A_line_parts ?L_line_parts ?D_line_parts ?P_line_parts ?A_row_form ?L_row_form ?D_row_form ?P_row_form ?A_all_words ?L_all_words ?D_all_words ?P_all_words ?A_read_program ?L_read_program ?D_read_program ?P_read_program ?A_history_text ?L_history_text ?D_history_text ?P_history_text ?A_number_like ?L_number_like ?D_number_like ?P_number_like ?A_token_of ?L_token_of ?D_token_of ?P_token_of ?A_read_history ?L_read_history ?D_read_history ?P_read_history ?A__law_pool ?L__law_pool ?D__law_pool ?P__law_pool ?A__law_draw ?L__law_draw ?D__law_draw ?P__law_draw ?A__law_item ?L__law_item ?D__law_item ?P__law_item ?A__law_call ?L__law_call ?D__law_call ?P__law_call ?A__law_nested ?L__law_nested ?D__law_nested ?P__law_nested ?A__law_nested_due ?L__law_nested_due ?D__law_nested_due ?P__law_nested_due ?A_law ?L_law ?D_law ?P_law ?A_RowCheck ?c1_RowCheck ?c2_RowCheck ?c3_RowCheck ?c4_RowCheck ?n_RowCheck_known_asks ?n_RowCheck_known_signals ?n_RowCheck_with_edits ?n_RowCheck_total ?n_RowCheck_label_words ?n_RowCheck_slot_words ?n_RowCheck_gate_words ?n_RowCheck_edit_words ?mk_RowCheck ?kp_RowCheck ?at_RowCheck___init__ ?fn_RowCheck___init__ ?L_RowCheck___init__ ?D_RowCheck___init__ ?P_RowCheck___init__ ?at_RowCheck_check ?fn_RowCheck_check ?L_RowCheck_check ?D_RowCheck_check ?P_RowCheck_check ?at_RowCheck_check_sizes ?fn_RowCheck_check_sizes ?L_RowCheck_check_sizes ?D_RowCheck_check_sizes ?P_RowCheck_check_sizes ?at_RowCheck_check_list ?fn_RowCheck_check_list ?L_RowCheck_check_list ?D_RowCheck_check_list ?P_RowCheck_check_list ?at_RowCheck_fits ?fn_RowCheck_fits ?L_RowCheck_fits ?D_RowCheck_fits ?P_RowCheck_fits ?at_RowCheck_id_fits ?fn_RowCheck_id_fits ?L_RowCheck_id_fits ?D_RowCheck_id_fits ?P_RowCheck_id_fits ?at_RowCheck_part_fits ?fn_RowCheck_part_fits ?L_RowCheck_part_fits ?D_RowCheck_part_fits ?P_RowCheck_part_fits ?at_RowCheck_collect ?fn_RowCheck_collect ?L_RowCheck_collect ?D_RowCheck_collect ?P_RowCheck_collect ?A_Program ?c1_Program ?c2_Program ?c3_Program ?c4_Program ?n_Program_ask_table ?n_Program_signal_table ?n_Program_input_words ?n_Program_row_list ?n_Program_label_names ?n_Program_slot_names ?n_Program_gate_names ?n_Program_row_table ?n_Program_list_sizes ?mk_Program ?kp_Program ?at_Program___init__ ?fn_Program___init__ ?L_Program___init__ ?D_Program___init__ ?P_Program___init__ ?at_Program_add_rows ?fn_Program_add_rows ?L_Program_add_rows ?D_Program_add_rows ?P_Program_add_rows ?A_LineReader ?c1_LineReader ?c2_LineReader ?c3_LineReader ?c4_LineReader ?n_LineReader_lines ?n_LineReader_done ?mk_LineReader ?kp_LineReader ?at_LineReader___init__ ?fn_LineReader___init__ ?L_LineReader___init__ ?D_LineReader___init__ ?P_LineReader___init__ ?at_LineReader_peek ?fn_LineReader_peek ?L_LineReader_peek ?D_LineReader_peek ?P_LineReader_peek ?at_LineReader_expect ?fn_LineReader_expect ?L_LineReader_expect ?D_LineReader_expect ?P_LineReader_expect ?at_LineReader_head ?fn_LineReader_head ?L_LineReader_head ?D_LineReader_head ?P_LineReader_head ?at_LineReader_inputs_line ?fn_LineReader_inputs_line ?L_LineReader_inputs_line ?D_LineReader_inputs_line ?P_LineReader_inputs_line ?at_LineReader_block ?fn_LineReader_block ?L_LineReader_block ?D_LineReader_block ?P_LineReader_block ?at_LineReader_row ?fn_LineReader_row ?L_LineReader_row ?D_LineReader_row ?P_LineReader_row ?pi_ha ?pi_hm ?pi_ty ?pi_ic
   (case z_len => k_is)
   (case z_int => k_is)
   (case z_bool => k_is)
   (case z_str => k_is)
   (case z_list => k_is)
   (case z_tuple => k_is)
   (case z_dict => k_is)
   (case z_set => k_is)
   (case z_range => k_is)
   (case z_zip => k_is)
   (case z_enumerate => k_is)
   (case z_sorted => k_is)
   (case z_isinstance => k_is)
   (case z_LETTERS => k_is)
   (case z_DIGITS => k_is)
   (case z_MOST_ROWS => k_is)
   (case z_MOST_LABELS => k_is)
   (case z_MOST_SLOTS => k_is)
   (case z_MOST_GATES => k_is)
   (case z_MOST_EDITS => k_is)
   (case z_DEEPEST_checks => k_is)
   (case z_DEEPEST_texts => k_is)
   (case A_SHAPES => k_is)
   (case L_SHAPES => k_is)
   (case E_SHAPES => exact ⟨⟨_, rfl, rfl⟩, ⟨_, rfl⟩, ⟨⟨_, rfl, rfl⟩, ⟨_, rfl⟩, ⟨⟨_, rfl, rfl⟩, ⟨_, rfl⟩, ⟨⟨_, rfl, rfl⟩, ⟨_, rfl⟩, ⟨⟨_, rfl, rfl⟩, ⟨_, rfl⟩, ⟨⟨_, rfl, rfl⟩, ⟨_, rfl⟩, ⟨⟨_, rfl, rfl⟩, ⟨_, rfl⟩, ⟨⟨_, rfl, rfl⟩, ⟨_, rfl⟩, ⟨⟨_, rfl, rfl⟩, ⟨_, rfl⟩, ⟨⟨_, rfl, rfl⟩, ⟨_, rfl⟩, ⟨⟨_, rfl, rfl⟩, ⟨_, rfl⟩, ⟨⟨_, rfl, rfl⟩, ⟨_, rfl⟩, ⟨⟨_, rfl, rfl⟩, ⟨_, rfl⟩, ⟨⟨_, rfl, rfl⟩, ⟨_, rfl⟩, ⟨⟨_, rfl, rfl⟩, ⟨_, rfl⟩, ⟨⟨_, rfl, rfl⟩, ⟨_, rfl⟩, ⟨⟨_, rfl, rfl⟩, ⟨_, rfl⟩, ⟨⟨_, rfl, rfl⟩, ⟨_, rfl⟩, trivial⟩⟩⟩⟩⟩⟩⟩⟩⟩⟩⟩⟩⟩⟩⟩⟩⟩⟩)
   (case S_SHAPES => rfl)
   (case A_FORMS => k_is)
   (case L_FORMS => k_is)
   (case E_FORMS => exact ⟨⟨_, rfl, rfl⟩, ⟨_, rfl⟩, ⟨⟨_, rfl, rfl⟩, ⟨_, rfl⟩, ⟨⟨_, rfl, rfl⟩, ⟨_, rfl⟩, ⟨⟨_, rfl, rfl⟩, ⟨_, rfl⟩, ⟨⟨_, rfl, rfl⟩, ⟨_, rfl⟩, ⟨⟨_, rfl, rfl⟩, ⟨_, rfl⟩, ⟨⟨_, rfl, rfl⟩, ⟨_, rfl⟩, ⟨⟨_, rfl, rfl⟩, ⟨_, rfl⟩, ⟨⟨_, rfl, rfl⟩, ⟨_, rfl⟩, ⟨⟨_, rfl, rfl⟩, ⟨_, rfl⟩, ⟨⟨_, rfl, rfl⟩, ⟨_, rfl⟩, trivial⟩⟩⟩⟩⟩⟩⟩⟩⟩⟩⟩)
   (case S_FORMS => rfl)
   (case A_OUTER_PARTS => k_is)
   (case L_OUTER_PARTS => k_is)
   (case E_OUTER_PARTS => exact ⟨⟨_, rfl, rfl⟩, ⟨_, rfl⟩, ⟨⟨_, rfl, rfl⟩, ⟨_, rfl⟩, ⟨⟨_, rfl, rfl⟩, ⟨_, rfl⟩, ⟨⟨_, rfl, rfl⟩, ⟨_, rfl⟩, trivial⟩⟩⟩⟩)
   (case S_OUTER_PARTS => rfl)
   (case A_COMMAND_PARTS => k_is)
   (case L_COMMAND_PARTS => k_is)
   (case E_COMMAND_PARTS => exact ⟨⟨_, rfl, rfl⟩, ⟨_, rfl⟩, ⟨⟨_, rfl, rfl⟩, ⟨_, rfl⟩, ⟨⟨_, rfl, rfl⟩, ⟨_, rfl⟩, ⟨⟨_, rfl, rfl⟩, ⟨_, rfl⟩, ⟨⟨_, rfl, rfl⟩, ⟨_, rfl⟩, ⟨⟨_, rfl, rfl⟩, ⟨_, rfl⟩, ⟨⟨_, rfl, rfl⟩, ⟨_, rfl⟩, trivial⟩⟩⟩⟩⟩⟩⟩)
   (case S_COMMAND_PARTS => rfl)
   (case A_SIZES => k_is)
   (case L_SIZES => k_is)
   (case E_SIZES => exact ⟨⟨_, rfl, rfl⟩, ⟨_, rfl⟩, ⟨⟨_, rfl, rfl⟩, ⟨_, rfl⟩, ⟨⟨_, rfl, rfl⟩, ⟨_, rfl⟩, ⟨⟨_, rfl, rfl⟩, ⟨_, rfl⟩, ⟨⟨_, rfl, rfl⟩, ⟨_, rfl⟩, ⟨⟨_, rfl, rfl⟩, ⟨_, rfl⟩, ⟨⟨_, rfl, rfl⟩, ⟨_, rfl⟩, ⟨⟨_, rfl, rfl⟩, ⟨_, rfl⟩, ⟨⟨_, rfl, rfl⟩, ⟨_, rfl⟩, ⟨⟨_, rfl, rfl⟩, ⟨_, rfl⟩, ⟨⟨_, rfl, rfl⟩, ⟨_, rfl⟩, ⟨⟨_, rfl, rfl⟩, ⟨_, rfl⟩, ⟨⟨_, rfl, rfl⟩, ⟨_, rfl⟩, ⟨⟨_, rfl, rfl⟩, ⟨_, rfl⟩, ⟨⟨_, rfl, rfl⟩, ⟨_, rfl⟩, trivial⟩⟩⟩⟩⟩⟩⟩⟩⟩⟩⟩⟩⟩⟩⟩)
   (case S_SIZES => rfl)
   (case A_OUTER => k_is)
   (case L_OUTER => k_is)
   (case A_NUMBERED => k_is)
   (case L_NUMBERED => k_is)
   (case A_LAST => k_is)
   (case L_LAST => k_is)
   (case opq => k_is)
   (case sg => k_is)
   (case A_InputError => k_is)
   (case A_OpenError => k_is)
   (case A_RunError => k_is)
   (case A_InvalidProgram => k_is)
   (case l_InvalidProgram => k_is)
   (case sa_InvalidProgram => k_is)
   (case su_InvalidProgram => rfl)
   (case ii_InvalidProgram => k_is)
   (case ti_InvalidProgram => k_is)
   (case lf_InvalidProgram => k_is)
   (case cf_InvalidProgram => k_is)
   (case lc_InvalidProgram => k_is)
   (case ld_InvalidProgram => k_is)
   (case v2_InvalidProgram => rfl)
   (case fe_InvalidProgram => decide +kernel)
   (case kp_InvalidProgram => k_is)
   (case hg_InvalidProgram => k_is)
   (case hk_InvalidProgram => k_is)
   (case hs_InvalidProgram => k_is)
   (case hd_InvalidProgram => k_is)
   (case ty_InvalidProgram => k_is)
   (case ic_InvalidProgram => k_is)
   (case ss_InvalidProgram => k_is)
   (case no_part_InvalidProgram => k_is)
   (case no_path_InvalidProgram => k_is)
   (case A_InvalidHistory => k_is)
   (case l_InvalidHistory => k_is)
   (case sa_InvalidHistory => k_is)
   (case su_InvalidHistory => rfl)
   (case ii_InvalidHistory => k_is)
   (case ti_InvalidHistory => k_is)
   (case lf_InvalidHistory => k_is)
   (case cf_InvalidHistory => k_is)
   (case lc_InvalidHistory => k_is)
   (case ld_InvalidHistory => k_is)
   (case v2_InvalidHistory => rfl)
   (case fe_InvalidHistory => decide +kernel)
   (case kp_InvalidHistory => k_is)
   (case hg_InvalidHistory => k_is)
   (case hk_InvalidHistory => k_is)
   (case hs_InvalidHistory => k_is)
   (case hd_InvalidHistory => k_is)
   (case ty_InvalidHistory => k_is)
   (case ic_InvalidHistory => k_is)
   (case ss_InvalidHistory => k_is)
   (case no_at_InvalidHistory => k_is)
   (case A_InvalidText => k_is)
   (case l_InvalidText => k_is)
   (case sa_InvalidText => k_is)
   (case su_InvalidText => rfl)
   (case ii_InvalidText => k_is)
   (case ti_InvalidText => k_is)
   (case lf_InvalidText => k_is)
   (case cf_InvalidText => k_is)
   (case lc_InvalidText => k_is)
   (case ld_InvalidText => k_is)
   (case v2_InvalidText => rfl)
   (case fe_InvalidText => decide +kernel)
   (case kp_InvalidText => k_is)
   (case hg_InvalidText => k_is)
   (case hk_InvalidText => k_is)
   (case hs_InvalidText => k_is)
   (case hd_InvalidText => k_is)
   (case ty_InvalidText => k_is)
   (case ic_InvalidText => k_is)
   (case ss_InvalidText => k_is)
   (case no_line_InvalidText => k_is)
   (case A_InvalidArgument => k_is)
   (case l_InvalidArgument => k_is)
   (case sa_InvalidArgument => k_is)
   (case su_InvalidArgument => rfl)
   (case ii_InvalidArgument => k_is)
   (case ti_InvalidArgument => k_is)
   (case lf_InvalidArgument => k_is)
   (case cf_InvalidArgument => k_is)
   (case lc_InvalidArgument => k_is)
   (case ld_InvalidArgument => k_is)
   (case v2_InvalidArgument => rfl)
   (case fe_InvalidArgument => decide +kernel)
   (case kp_InvalidArgument => k_is)
   (case hg_InvalidArgument => k_is)
   (case hk_InvalidArgument => k_is)
   (case hs_InvalidArgument => k_is)
   (case hd_InvalidArgument => k_is)
   (case ty_InvalidArgument => k_is)
   (case ic_InvalidArgument => k_is)
   (case ss_InvalidArgument => k_is)
   (case no_part_InvalidArgument => k_is)
   (case xa2 => k_is)
   (case xa3 => k_is)
   (case xc_InvalidProgram => k_is)
   (case xm4_InvalidProgram => k_is)
   (case xc_InvalidHistory => k_is)
   (case xm4_InvalidHistory => k_is)
   (case xc_InvalidText => k_is)
   (case xm4_InvalidText => k_is)
   (case xc_InvalidArgument => k_is)
   (case xm4_InvalidArgument => k_is)
   (case ty_RunError => k_is)
   (case ic_RunError => k_is)
   (case ty_InputError => k_is)
   (case ic_InputError => k_is)
   (case kARs => k_is)
   (case kARn => rfl)
   (case kATs => k_is)
   (case kATn => rfl)
   (case kHNs => k_is)
   (case kHNn => rfl)
   (case kHTs => k_is)
   (case kHTn => rfl)
   (case kTNs => k_is)
   (case kTNn => rfl)
   (case kTRs => k_is)
   (case kTRn => rfl)
   (case kINs => k_is)
   (case kINn => rfl)
   (case eHAs => k_is)
   (case eTAs => k_is)
   (case eTHs => k_is)
   (case eIAs => k_is)
   (case eIHs => k_is)
   (case eITs => k_is)
   (case A_is_integer => k_is)
   (case L_is_integer => k_is)
   (case D_is_integer => k_is)
   (case P_is_integer => k_is)
   (case A_is_word => k_is)
   (case L_is_word => k_is)
   (case D_is_word => k_is)
   (case P_is_word => k_is)
   (case A_are_words => k_is)
   (case L_are_words => k_is)
   (case D_are_words => k_is)
   (case P_are_words => k_is)
   (case A_is_branches => k_is)
   (case L_is_branches => k_is)
   (case D_is_branches => k_is)
   (case P_is_branches => k_is)
   (case A_inner_lists => k_is)
   (case L_inner_lists => k_is)
   (case D_inner_lists => k_is)
   (case P_inner_lists => k_is)
   (case A_with_lists => k_is)
   (case L_with_lists => k_is)
   (case D_with_lists => k_is)
   (case P_with_lists => k_is)
   (case A_copy_row => k_is)
   (case L_copy_row => k_is)
   (case D_copy_row => k_is)
   (case P_copy_row => k_is)
   (case A_copy_rows => k_is)
   (case L_copy_rows => k_is)
   (case D_copy_rows => k_is)
   (case P_copy_rows => k_is)
   (case A_checked_asks => k_is)
   (case L_checked_asks => k_is)
   (case D_checked_asks => k_is)
   (case P_checked_asks => k_is)
   (case A_is_box => k_is)
   (case L_is_box => k_is)
   (case D_is_box => k_is)
   (case P_is_box => k_is)
   (case A_checked_signals => k_is)
   (case L_checked_signals => k_is)
   (case D_checked_signals => k_is)
   (case P_checked_signals => k_is)
   (case A_checked_inputs => k_is)
   (case L_checked_inputs => k_is)
   (case D_checked_inputs => k_is)
   (case P_checked_inputs => k_is)
   (case A_has_form => k_is)
   (case L_has_form => k_is)
   (case D_has_form => k_is)
   (case P_has_form => k_is)
   (case A_is_outer => k_is)
   (case L_is_outer => k_is)
   (case D_is_outer => k_is)
   (case P_is_outer => k_is)
   (case A_suits_things => k_is)
   (case L_suits_things => k_is)
   (case D_suits_things => k_is)
   (case P_suits_things => k_is)
   (case A_enter_token => k_is)
   (case L_enter_token => k_is)
   (case D_enter_token => k_is)
   (case P_enter_token => k_is)
   (case A_check_tokens => k_is)
   (case L_check_tokens => k_is)
   (case D_check_tokens => k_is)
   (case P_check_tokens => k_is)
   (case A_split_turns => k_is)
   (case L_split_turns => k_is)
   (case D_split_turns => k_is)
   (case P_split_turns => k_is)
   (case A_check => k_is)
   (case L_check => k_is)
   (case D_check => k_is)
   (case P_check => k_is)
   (case A_check_program => k_is)
   (case L_check_program => k_is)
   (case D_check_program => k_is)
   (case P_check_program => k_is)
   (case A_program_text => k_is)
   (case L_program_text => k_is)
   (case D_program_text => k_is)
   (case P_program_text => k_is)
   (case A_line_parts => k_is)
   (case L_line_parts => k_is)
   (case D_line_parts => k_is)
   (case P_line_parts => k_is)
   (case A_row_form => k_is)
   (case L_row_form => k_is)
   (case D_row_form => k_is)
   (case P_row_form => k_is)
   (case A_all_words => k_is)
   (case L_all_words => k_is)
   (case D_all_words => k_is)
   (case P_all_words => k_is)
   (case A_read_program => k_is)
   (case L_read_program => k_is)
   (case D_read_program => k_is)
   (case P_read_program => k_is)
   (case A_history_text => k_is)
   (case L_history_text => k_is)
   (case D_history_text => k_is)
   (case P_history_text => k_is)
   (case A_number_like => k_is)
   (case L_number_like => k_is)
   (case D_number_like => k_is)
   (case P_number_like => k_is)
   (case A_token_of => k_is)
   (case L_token_of => k_is)
   (case D_token_of => k_is)
   (case P_token_of => k_is)
   (case A_read_history => k_is)
   (case L_read_history => k_is)
   (case D_read_history => k_is)
   (case P_read_history => k_is)
   (case A__law_pool => k_is)
   (case L__law_pool => k_is)
   (case D__law_pool => k_is)
   (case P__law_pool => k_is)
   (case A__law_draw => k_is)
   (case L__law_draw => k_is)
   (case D__law_draw => k_is)
   (case P__law_draw => k_is)
   (case A__law_item => k_is)
   (case L__law_item => k_is)
   (case D__law_item => k_is)
   (case P__law_item => k_is)
   (case A__law_call => k_is)
   (case L__law_call => k_is)
   (case D__law_call => k_is)
   (case P__law_call => k_is)
   (case A__law_nested => k_is)
   (case L__law_nested => k_is)
   (case D__law_nested => k_is)
   (case P__law_nested => k_is)
   (case A__law_nested_due => k_is)
   (case L__law_nested_due => k_is)
   (case D__law_nested_due => k_is)
   (case P__law_nested_due => k_is)
   (case A_law => k_is)
   (case L_law => k_is)
   (case D_law => k_is)
   (case P_law => k_is)
   (case A_RowCheck => k_is)
   (case c1_RowCheck => k_is)
   (case c2_RowCheck => k_is)
   (case c3_RowCheck => k_is)
   (case c4_RowCheck => k_is)
   (case n_RowCheck_known_asks => k_is)
   (case n_RowCheck_known_signals => k_is)
   (case n_RowCheck_with_edits => k_is)
   (case n_RowCheck_total => k_is)
   (case n_RowCheck_label_words => k_is)
   (case n_RowCheck_slot_words => k_is)
   (case n_RowCheck_gate_words => k_is)
   (case n_RowCheck_edit_words => k_is)
   (case mk_RowCheck => k_is)
   (case kp_RowCheck => k_is)
   (case at_RowCheck___init__ => k_is)
   (case fn_RowCheck___init__ => k_is)
   (case L_RowCheck___init__ => k_is)
   (case D_RowCheck___init__ => k_is)
   (case P_RowCheck___init__ => k_is)
   (case at_RowCheck_check => k_is)
   (case fn_RowCheck_check => k_is)
   (case L_RowCheck_check => k_is)
   (case D_RowCheck_check => k_is)
   (case P_RowCheck_check => k_is)
   (case at_RowCheck_check_sizes => k_is)
   (case fn_RowCheck_check_sizes => k_is)
   (case L_RowCheck_check_sizes => k_is)
   (case D_RowCheck_check_sizes => k_is)
   (case P_RowCheck_check_sizes => k_is)
   (case at_RowCheck_check_list => k_is)
   (case fn_RowCheck_check_list => k_is)
   (case L_RowCheck_check_list => k_is)
   (case D_RowCheck_check_list => k_is)
   (case P_RowCheck_check_list => k_is)
   (case at_RowCheck_fits => k_is)
   (case fn_RowCheck_fits => k_is)
   (case L_RowCheck_fits => k_is)
   (case D_RowCheck_fits => k_is)
   (case P_RowCheck_fits => k_is)
   (case at_RowCheck_id_fits => k_is)
   (case fn_RowCheck_id_fits => k_is)
   (case L_RowCheck_id_fits => k_is)
   (case D_RowCheck_id_fits => k_is)
   (case P_RowCheck_id_fits => k_is)
   (case at_RowCheck_part_fits => k_is)
   (case fn_RowCheck_part_fits => k_is)
   (case L_RowCheck_part_fits => k_is)
   (case D_RowCheck_part_fits => k_is)
   (case P_RowCheck_part_fits => k_is)
   (case at_RowCheck_collect => k_is)
   (case fn_RowCheck_collect => k_is)
   (case L_RowCheck_collect => k_is)
   (case D_RowCheck_collect => k_is)
   (case P_RowCheck_collect => k_is)
   (case A_Program => k_is)
   (case c1_Program => k_is)
   (case c2_Program => k_is)
   (case c3_Program => k_is)
   (case c4_Program => k_is)
   (case n_Program_ask_table => k_is)
   (case n_Program_signal_table => k_is)
   (case n_Program_input_words => k_is)
   (case n_Program_row_list => k_is)
   (case n_Program_label_names => k_is)
   (case n_Program_slot_names => k_is)
   (case n_Program_gate_names => k_is)
   (case n_Program_row_table => k_is)
   (case n_Program_list_sizes => k_is)
   (case mk_Program => k_is)
   (case kp_Program => k_is)
   (case at_Program___init__ => k_is)
   (case fn_Program___init__ => k_is)
   (case L_Program___init__ => k_is)
   (case D_Program___init__ => k_is)
   (case P_Program___init__ => k_is)
   (case at_Program_add_rows => k_is)
   (case fn_Program_add_rows => k_is)
   (case L_Program_add_rows => k_is)
   (case D_Program_add_rows => k_is)
   (case P_Program_add_rows => k_is)
   (case A_LineReader => k_is)
   (case c1_LineReader => k_is)
   (case c2_LineReader => k_is)
   (case c3_LineReader => k_is)
   (case c4_LineReader => k_is)
   (case n_LineReader_lines => k_is)
   (case n_LineReader_done => k_is)
   (case mk_LineReader => k_is)
   (case kp_LineReader => k_is)
   (case at_LineReader___init__ => k_is)
   (case fn_LineReader___init__ => k_is)
   (case L_LineReader___init__ => k_is)
   (case D_LineReader___init__ => k_is)
   (case P_LineReader___init__ => k_is)
   (case at_LineReader_peek => k_is)
   (case fn_LineReader_peek => k_is)
   (case L_LineReader_peek => k_is)
   (case D_LineReader_peek => k_is)
   (case P_LineReader_peek => k_is)
   (case at_LineReader_expect => k_is)
   (case fn_LineReader_expect => k_is)
   (case L_LineReader_expect => k_is)
   (case D_LineReader_expect => k_is)
   (case P_LineReader_expect => k_is)
   (case at_LineReader_head => k_is)
   (case fn_LineReader_head => k_is)
   (case L_LineReader_head => k_is)
   (case D_LineReader_head => k_is)
   (case P_LineReader_head => k_is)
   (case at_LineReader_inputs_line => k_is)
   (case fn_LineReader_inputs_line => k_is)
   (case L_LineReader_inputs_line => k_is)
   (case D_LineReader_inputs_line => k_is)
   (case P_LineReader_inputs_line => k_is)
   (case at_LineReader_block => k_is)
   (case fn_LineReader_block => k_is)
   (case L_LineReader_block => k_is)
   (case D_LineReader_block => k_is)
   (case P_LineReader_block => k_is)
   (case at_LineReader_row => k_is)
   (case fn_LineReader_row => k_is)
   (case L_LineReader_row => k_is)
   (case D_LineReader_row => k_is)
   (case P_LineReader_row => k_is)
   (case pi_ha => k_is)
   (case pi_hm => k_is)
   (case pi_ty => k_is)
   (case pi_ic => k_is)
