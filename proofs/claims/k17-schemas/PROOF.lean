import PyProof.Rows.All
import Wide.All
import OpenK.AllK
import Wide.FinOn
import KE.KExcSuper
import HandS.ForMost
import HandS.Exc
import HandS.ExcInit
import HandS.HeadWalk
import HandS.IsInst
import HandS.ExcIs
import KE.KExcIs
import HandS.Defaults
import HandS.TryMany
import HandS.ExcField
import HandS.More
import HandS.Dict
import HandS.SetBool
import HandS.NoneIn
import PyProof.EqKinds
import HandS.Iter
import HandS.ListItems
import HandS.MakeKw
import HandS.ExcOwn
import HandS.Wide
import HandS.WideBits
import HandS.Flow
import PySem.Challenge.RW_fetchwalks_k17_schemas_refused
import HandS.Walk
import HandS.DictComp
import KE.GoesMore
import KE.GoesEnum
import HandS.Codes
import HandS.WordsExc
import HandS.OwnEq
import HandS.DeepEq
import HandS.CallRecv
import HandS.Finally
import HandS.Text
import HandS.HeadEnd
import HandS.HeadHook1
import HandS.HeadHook2
import KE.KStateDown
import HandS.Head0
import HandS.Head1
import HandS.Head2
section
set_option Elab.async false
set_option linter.all false
set_option maxRecDepth 100000
set_option maxHeartbeats 4000000
/-! EK1: own exception classes over any base, made with keywords too: type.__call__, __new__, then the own __init__ -/
namespace PySem
namespace EK
open PySem.W PySem.Calls PyProof.Rows PySem.HandSPX
section
variable {M : Model} {A : Around} {E : Value → Shared → Prop} {h : Heap} {g : Array GenState} {d : Drawn} {t : Nat} {os : OsState}
variable {nm q : Str} {C N : Addr} {bs bm bmB : List Value} {hdct : Bool} {sn : List Str} {sub : List Value} {ab : Bool} {col : Option Bool} {dd : Option Addr} {k0 k1 k2 k3 k5 : Option Value} {B newId initId : String}
theorem check_newK (F : ExcBaseFacts B newId initId bmB) (hT : ∀ X : String, bm.contains (.type X) = bmB.contains (.type X)) {rest : List Value} {kw : List (Str × Value)} {Q : Unit → Shared → Prop}
    (hC : h.get? C = some (excClassObj nm q C N bs bm hdct sn sub ab col dd k0 k1 k2 k3 k5 newId)) (hq : Q () ⟨h, g, d, t, os⟩) : wpAny M A (checkBuiltinCall newId ⟨.ref C :: rest, kw⟩) Q E ⟨h, g, d, t, os⟩ := by
  have hcB : (Value.ref C :: bm).contains (.type B) = true := by rw [List.contains_cons, hT, F.hasB, Bool.or_true]
  have hstar := F.noStar
  simp only [checkBuiltinCall, F.newKind, F.newSplit, F.newRow]
  repeat (first
    | refine wpAny_loadPart_at hC ?_
    | (refine wpAny_isSubtype_exc hC ?_; rw [hcB])
    | refine wpAny_staticBase_exc hC ?_
    | refine wpAny_madeBy_exc hC ?_
    | simp only [bne_self_eq_false, Bool.false_eq_true, if_false]
    | wp_step)
  exact hq
end
section
variable {prog : Program} {w : World} {A : Around} {E : Value → Shared → Prop} {R : Result → Shared → Prop} {h : Heap} {g : Array GenState} {d : Drawn} {t : Nat} {os : OsState}
variable {nm q : Str} {C N : Addr} {bs bm bmB : List Value} {hdct : Bool} {sn : List Str} {sub : List Value} {ab : Bool} {col : Option Bool} {dd : Option Addr} {k0 k1 k2 k3 k5 : Option Value} {B newId initId : String}
theorem newK (F : ExcBaseFacts B newId initId bmB) (hT : ∀ X : String, bm.contains (.type X) = bmB.contains (.type X)) {rest : List Value} {kw : List (Str × Value)}
    (hC : h.get? C = some (excClassObj nm q C N bs bm hdct sn sub ab col dd k0 k1 k2 k3 k5 newId))
    (hq : R (.ok (.ret (.ref (h.objs.size + 1)))) ⟨(h.push (W.kdv_tup rest)).push (excO C h.objs.size), g, d, t, os⟩) (hrest : rest.length ≤ sizeLine) :
    codeAny (model prog w) A (.builtin newId ⟨.ref C :: rest, kw⟩) R ⟨h, g, d, t, os⟩ := by
  have hends := F.ends
  have hcB : (Value.ref C :: bm).contains (.type B) = true := by rw [List.contains_cons, hT, F.hasB, Bool.or_true]
  have hcA : (Value.ref C :: bm).contains (.type "AttributeError") = false := by rw [List.contains_cons, hT, F.noAttr]; rfl
  have hcN : (Value.ref C :: bm).contains (.type "NameError") = false := by rw [List.contains_cons, hT, F.noName]; rfl
  refine codeAny_builtinAt F.entry ?_
  unfold Builtin.«BaseException.__new__»
  refine wpAt_bind ?_
  show wpAt _ _ _ (stack >>= _) _ _ _
  refine wpAt_bind (wpAt_stack fun p below => wpAt_of_wpAny ?_)
  wp_walk
  refine wpAt_of_wpAny ?_
  rw [F.owner]
  repeat (first
    | with_reducible refine wpAny_madeHere_exc F.canon hC ?_
    | with_reducible refine wpAny_loadPart_at hC ?_
    | (with_reducible refine wpAny_isSubtype_exc hC ?_; first | rw [hcB] | rw [hcA] | rw [hcN])
    | wp_step)
  show R _ _
  rw [Heap.size_push]
  exact hq
theorem type_callK (F : ExcBaseFacts B newId initId bmB) (hT : ∀ X : String, bm.contains (.type X) = bmB.contains (.type X)) {rest : List Value} {kw : List (Str × Value)} {fI : Addr} {Q : Fin → Shared → Prop}
    (hC : h.get? C = some (excClassObj nm q C N bs bm hdct sn sub ab col dd k0 k1 k2 k3 k5 newId))
    (hi : W.Looks (model prog w) h (typeLookup (.ref C) "__init__") (some (.ref fI))) (hb : ∀ self, W.Looks (model prog w) h (bindSpecial (.ref fI) self) (.ref fI, [self])) (hrest : rest.length ≤ sizeLine)
    (hq : codeAny (model prog w) A (.call (.ref fI) ⟨.ref (h.objs.size + 1) :: rest, kw⟩)
      (fun r s' => match r with | .ok (.ret v) => v = .none ∧ Q (.done (.ret (.ref (h.objs.size + 1)))) s' | .ok _ => False | .error e => E e s')
      ⟨(h.push (W.kdv_tup rest)).push (excO C h.objs.size), g, d, t, os⟩) :
    wpAny (model prog w) A (Builtin.«type.__call__» ⟨.ref C :: rest, kw⟩) Q E ⟨h, g, d, t, os⟩ := by
  repeat (first | with_reducible refine wpAny_loadPart_at hC ?_ | with_reducible refine wpAny_madeBy_exc hC ?_ | wp_step)
  refine codeAny_call_builtin_code (Code.quiet_builtin _ F.quiet) (check_newK F hT hC ?_)
  refine newK F hT hC ?_ hrest
  show wpAny _ _ _ _ _ _
  have k : ∀ b o, h.get? b = some o → ((h.push (W.kdv_tup rest)).push (excO C h.objs.size)).get? b = some o := fun b o e => Heap.get?_push_of_some _ (Heap.get?_push_of_some _ e)
  have hC₁ := k _ _ hC
  have hget : ((h.push (W.kdv_tup rest)).push (excO C h.objs.size)).get? (h.objs.size + 1) = some (excO C h.objs.size) := by heap_get
  have hcC : (Value.ref C :: bm).contains (.ref C) = true := by simp
  have i1 := hi.keeps k
  have b1 := (hb (.ref (h.objs.size + 1))).keeps k
  unfold isInstance
  repeat (first | with_reducible refine wpAny_loadPart_at hget ?_ | (with_reducible refine wpAny_isSubtype_exc hC₁ ?_; rw [hcC]) | wp_step)
  show wpAny _ _ (typeLookup (.ref C) _) _ _ _
  refine i1.at ?_
  refine wpAny_holding (wpAny_bind (b1.at ?_))
  refine wpAny_bind (wpAny_call (codeAny_mono hq fun r s' z => ?_))
  rcases r with e | (v | _ | _ | _) <;> first | exact z | exact z.elim | skip
  obtain ⟨rfl, z⟩ := z
  first
    | exact wpAny_pure (wpAny_pure z)
    | (wp_walk; exact z)
theorem call_ownK (F : ExcBaseFacts B newId initId bmB) (hT : ∀ X : String, bm.contains (.type X) = bmB.contains (.type X)) {rest : List Value} {kw : List (Str × Value)} {fI : Addr}
    (hC : h.get? C = some (excClassObj nm q C N bs bm hdct sn sub ab col dd k0 k1 k2 k3 k5 newId))
    (hi : W.Looks (model prog w) h (typeLookup (.ref C) "__init__") (some (.ref fI))) (hb : ∀ self, W.Looks (model prog w) h (bindSpecial (.ref fI) self) (.ref fI, [self])) (hrest : rest.length ≤ sizeLine)
    (hq : codeAny (model prog w) (A.under (.builtin "type.__call__" ⟨.ref C :: rest, kw⟩)) (.call (.ref fI) ⟨.ref (h.objs.size + 1) :: rest, kw⟩) (W.InitBack (h.objs.size + 1) R)
      ⟨(h.push (W.kdv_tup rest)).push (excO C h.objs.size), g, d, t, os⟩) :
    codeAny (model prog w) A (.call (.ref C) ⟨rest, kw⟩) R ⟨h, g, d, t, os⟩ := by
  have f1 := tc_lookup
  have f2 := tc_bind (.ref C)
  have hTy : (⟨h, g, d, t, os⟩ : Shared).TypeIs (.ref C) "type" := ⟨_, hC, rfl⟩
  refine codeAny_of_tree ?_
  show wpAny _ _ (callAny (.ref C) _) _ _ _
  repeat (any_goals (first | assumption | with_reducible refine wpAny_loadPart_at hC ?_ | wp_step))
  refine ⟨rfl, ?_⟩
  refine codeAny_call_builtin_at (Code.quiet_builtin _ (by decide +kernel)) entry_typeCall (wpAny_check_type_call_sub hC (type_callK F hT hC hi hb hrest ?_))
  refine codeAny_mono hq fun r s' z => ?_
  rcases r with e | (v | _ | _ | _) <;> exact z
end
end EK
end PySem
end
section
set_option Elab.async false
set_option linter.all false
set_option maxRecDepth 100000
set_option maxHeartbeats 4000000
/-! EK2: an own exception's __init__: super().__init__('..'), then self.f = f for each field -/
namespace PySem
namespace EK
open PySem.W PySem.Calls PyProof.Rows PySem.HandSPX
open Builtin Builtin.ObjectAttr
/-! ### self.name = v, whatever the built-in base -/
section
variable {prog : Program} {w : World} {A : Around} {E : Value → Shared → Prop} {R : Result → Shared → Prop} {hp : Heap} {g : Array GenState} {d : Drawn} {t : Nat} {os : OsState}
theorem osaG {K : W.Frag} {name : Str} {tk : Tok} {v : Value} {x C : Addr} {ox : Obj} {od : Option Obj} {cd : ClassData}
    (X : K.In hp) (I : W.InstAt hp x ox C od) (hcd : W.clsIn K C = some cd) (hpass : ∀ self, refuseLoop self "__setattr__" cd.mro = pure ()) (hob : cd.mro.contains (.type "object") = true) (ha : W.findIn K (.ref C) name = some none)
    (hq : wpAny (model prog w) A.in1 (storeInOwnDict (.ref x) (.ref C) (.str name tk) name v false)
      (fun fin s' => match fin with | .done f => R (.ok f) s' | .again c' => c'.quiet = true ∧ codeAny (model prog w) A c' R s') (fun e s' => R (.error e) s') ⟨hp, g, d, t, os⟩) :
    codeAny (model prog w) A (.call (.builtin "object.__setattr__") ⟨[.ref x, .str name tk, v], []⟩) R ⟨hp, g, d, t, os⟩ := by
  have SF := F.store_object
  have hne : ¬ (cd.mro.isEmpty = true) := fun z => by
    rw [List.isEmpty_iff.mp z] at hob
    exact Bool.noConfusion hob
  have sub : W.Looks (model prog w) hp (isInstance (.ref x) (.type "object")) true := I.type.andThen (W.looks_mroIn X (by unfold W.mroIn; rw [hcd, Option.bind_some, if_neg hne, hob]))
  refine codeAny_call_builtin SF.slot.plain SF.entry (@W.check_slot (model prog w) _ _ ⟨hp, g, d, t, os⟩ "object.__setattr__" "object" "__setattr__" (.ref x) [.str name tk, v] [] _ SF.kind SF.split sub (SF.args (.ref x) (.str name tk) v) ?_)
  have hmr : W.Looks (model prog w) hp (mroOf (.ref C)) cd.mro := (W.looks_clsIn X hcd).andThen .now
  have L3 : W.Looks (model prog w) hp (storeTaker? none) none := .now
  rw [W.osa_eq, refuse_eq]
  refine wpAny_bind (wpAny_bind (I.type.at (wpAny_bind (hmr.at ?_))))
  rw [hpass]
  refine wpAny_pure (wpAny_bind (I.type.at (wpAny_bind ((W.looks_findIn X ha).at (wpAny_bind (L3.at ?_))))))
  exact hq
theorem osa_first {K : W.Frag} {name : Str} {tk : Tok} {v : Value} {x C : Addr} {fv : Array Value} {cd : ClassData}
    (X : K.In hp) (hx : hp.get? x = some { cls := .ref C, data := .fields fv }) (hcd : W.clsIn K C = some cd) (hpass : ∀ self, refuseLoop self "__setattr__" cd.mro = pure ()) (hob : cd.mro.contains (.type "object") = true) (hh : cd.hasDict = true) (ha : W.findIn K (.ref C) name = some none)
    (hq : ∀ h' tk' dx, (∀ b o, b ≠ x → hp.get? b = some o → h'.get? b = some o) → hp.objs.size ≤ dx → dx ≠ x → h'.get? x = some { cls := .ref C, dict := some dx, data := .fields fv } →
      h'.Ns1 dx (fun y => if y = name then some v else none) → R (.ok (.ret .none)) ⟨h', g, d, tk', os⟩) :
    codeAny (model prog w) A (.call (.builtin "object.__setattr__") ⟨[.ref x, .str name tk, v], []⟩) R ⟨hp, g, d, t, os⟩ := by
  have I : W.InstAt hp x { cls := .ref C, data := .fields fv } C none := ⟨hx, rfl, rfl, trivial⟩
  have hxs : x ≠ hp.objs.size := Nat.ne_of_lt (Heap.lt_size hx)
  refine osaG X I hcd hpass hob ha ?_
  have hcls : W.Looks (model prog w) hp (classData C) cd := W.looks_clsIn X hcd
  obtain ⟨nm, bs, mro, ns, qn, hd, sn, sb, ab, col, del⟩ := cd
  dsimp only at hh
  subst hh
  unfold storeInOwnDict ownDictForStores
  repeat (first | with_reducible refine store_in_new ?_ ?_ | with_reducible refine wpAny_loadPart_at hx ?_ | with_reducible refine hcls.at ?_ | wp_step)
  · exact ⟨_, #[], _, (Heap.get?_update_ne _ _ _ _ hxs.symm).trans (Heap.get?_push_at rfl rfl), rfl, fun e he => absurd he (by simp), fun _ => rfl⟩
  · intro h' tk' hn' hs
    have hx₁ : (hp.push { cls := .type "dict", data := .dict #[] }).get? x = some { cls := .ref C, data := .fields fv } := Heap.get?_push_of_some _ hx
    refine hq h' tk' hp.objs.size (fun b o hb ho => ?_) (Nat.le_refl _) hxs.symm ?_ hn'
    · exact (hs.2 b (Nat.ne_of_lt (Heap.lt_size ho))).trans ((Heap.get?_update_ne _ _ _ _ hb).trans (Heap.get?_push_of_some _ ho))
    · exact (hs.2 x hxs).trans (Heap.get?_update_self _ hx₁ rfl)
theorem osa_more {K : W.Frag} {name : Str} {tk : Tok} {v : Value} {x C dx : Addr} {fv : Array Value} {cd : ClassData} {m0 : Str → Option Value} {nl : List Str}
    (X : K.In hp) (hx : hp.get? x = some { cls := .ref C, dict := some dx, data := .fields fv }) (hns : hp.Ns1 dx m0) (hw : Within m0 nl) (hz : nl.length ≤ 1000) (hcd : W.clsIn K C = some cd) (hpass : ∀ self, refuseLoop self "__setattr__" cd.mro = pure ()) (hob : cd.mro.contains (.type "object") = true) (hh : cd.hasDict = true)
    (ha : W.findIn K (.ref C) name = some none)
    (hq : ∀ h' tk', (∀ b o, b ≠ dx → hp.get? b = some o → h'.get? b = some o) → h'.Ns1 dx (fun y => if y = name then some v else m0 y) → R (.ok (.ret .none)) ⟨h', g, d, tk', os⟩) :
    codeAny (model prog w) A (.call (.builtin "object.__setattr__") ⟨[.ref x, .str name tk, v], []⟩) R ⟨hp, g, d, t, os⟩ := by
  obtain ⟨oD, esD, epD, hoD, hdD, _⟩ := hns.count hw
  have I : W.InstAt hp x { cls := .ref C, dict := some dx, data := .fields fv } C (some oD) := ⟨hx, rfl, rfl, hoD⟩
  refine osaG X I hcd hpass hob ha ?_
  have hcls : W.Looks (model prog w) hp (classData C) cd := W.looks_clsIn X hcd
  obtain ⟨nm, bs, mro, ns, qn, hd, sn, sb, ab, col, del⟩ := cd
  dsimp only at hh
  subst hh
  unfold storeInOwnDict ownDictForStores
  repeat (first | with_reducible refine PySem.OEX.store_in_old hns hw hz ?_ | with_reducible refine wpAny_loadPart_at hx ?_ | with_reducible refine hcls.at ?_ | wp_step)
  intro h' tk' hn' hs
  exact hq h' tk' (fun b o hb ho => (hs.2 b hb).trans ho) hn'
end

/-! ### the built-in __init__ bound by super(), called -/
section
variable {prog : Program} {w : World} {A : Around} {E : Value → Shared → Prop} {h : Heap} {g : Array GenState} {d : Drawn} {t : Nat} {os : OsState}
variable {nm q : Str} {C N : Addr} {bs bm bmB : List Value} {hdct : Bool} {sn : List Str} {sub : List Value} {ab : Bool} {col : Option Bool} {dd : Option Addr} {k0 k1 k2 k3 k5 : Option Value} {B newId initId : String}
theorem call_mw (FB : ExcBaseFacts B newId initId bmB) {u e t0 : Addr} {rest : List Value} {Q : Value → Shared → Prop}
    (hC : h.get? C = some (excClassObj nm q C N bs bm hdct sn sub ab col dd k0 k1 k2 k3 k5 newId)) (he : h.get? e = some (excO C t0)) (hu : h.get? u = some (kxs_mw initId e)) (hrest : rest.length ≤ sizeLine)
    (hq : ∀ h' t1, (∀ b o, b ≠ e → h.get? b = some o → h'.get? b = some o) → h'.get? e = some (excO C t1) → Q .none ⟨h', g, d, t, os⟩) :
    wpAny (model prog w) A (call (.ref u) rest) Q E ⟨h, g, d, t, os⟩ := by
  refine wpAny_call (codeAny_of_tree ?_)
  show wpAny _ A.in1 (callAny (.ref u) ⟨rest, []⟩) _ _ _
  simp only [callAny]
  refine wpAny_bind (wpAny_load hu ?_)
  simp only [kxs_mw, show (Value.type "method-wrapper" == Value.type "method" || Value.type "method-wrapper" == Value.type "builtin_function_or_method" || Value.type "method-wrapper" == Value.type "method-wrapper") = true by decide, if_true]
  refine W.KFB.if_so (by decide) ?_
  refine wpAny_bind (check_bound_init FB.toExcCallFacts hC he rfl ?_)
  refine wpAny_bind (wpAny_pure (wpAny_pure ?_))
  refine ⟨plainId_quiet FB.init.plain _, codeAny_builtin FB.initEntry ?_⟩
  rw [Around.under_plainId FB.init.plain _]
  wp_walk
  refine hq _ h.objs.size (fun b o hb ho => ?_) ?_
  · rw [Heap.get?_update_other _ _ (Ne.symm hb)]
    exact Heap.get?_push_of_some _ ho
  · rw [Heap.get?_update_self _ (Heap.get?_push_of_some _ he) rfl]
    rfl
end

/-! ### the body -/
inductive IsAsg : List Str → List Stmt → Prop
  | nil : IsAsg [] []
  | cons {f : Str} {fs : List Str} {q1 q2 q3 q4 : Pos} {r : List Stmt} (t : IsAsg fs r) : IsAsg (f :: fs) (.Assign [.Attribute (.Name "self" q1) f q2] (.Name f q3) q4 :: r)

/-- the exception at x: its fields so far (the newest first), its dict from n on -/
def ExAt (n : Nat) (h : Heap) (x C : Addr) (done : List (Str × Value)) : Prop :=
  (done = [] ∧ ∃ t : Addr, h.get? x = some (excO C t)) ∨
  (done ≠ [] ∧ ∃ (dx t : Addr), n ≤ dx ∧ dx ≠ x ∧ h.get? x = some { cls := .ref C, dict := some dx, data := .fields #[.ref t, .none, .none, .none, .bool false, .none] } ∧ h.Ns1 dx (fun y => done.lookup y))

theorem lookup_cons_fun (f : Str) (v : Value) (done : List (Str × Value)) : (fun y => if y = f then some v else done.lookup y) = fun y => ((f, v) :: done).lookup y := by
  funext y
  by_cases e : y = f
  · subst e
    simp [List.lookup]
  · have q : (y == f) = false := by simpa using e
    simp [List.lookup, q, e]
theorem within_lookup : ∀ (done : List (Str × Value)), Within (fun y => done.lookup y) (done.map (·.1)) := by
  intro done y hy
  induction done with
  | nil => exact absurd rfl hy
  | cons p r ih =>
    obtain ⟨f, v⟩ := p
    by_cases e : y = f
    · rw [e]
      exact List.mem_cons_self ..
    · have q : (y == f) = false := by simpa using e
      refine List.mem_cons_of_mem _ (ih ?_)
      simpa [List.lookup, q] using hy
section
variable {prog : Program} {w : World} {A : Around} {E : Value → Shared → Prop} {g : Array GenState} {d : Drawn} {os : OsState}
theorem asgs {K : W.Frag} {h0 : Heap} {env : Env} {x C : Addr} {m : Str → Option Value} {cd : ClassData} {val : Str → Value} (X0 : K.In h0) (hnx : K.lookup x = none) (hxL : env.locals ≠ x)
    (hk : env.scope.kind = .function) (hself : env.kindOf "self" = some .local) (hms : m "self" = some (.ref x))
    (sa : findIn K (.ref C) "__setattr__" = some (some (.builtin "object.__setattr__")))
    (hcd : W.clsIn K C = some cd) (hpass : ∀ self, refuseLoop self "__setattr__" cd.mro = pure ()) (hob : cd.mro.contains (.type "object") = true) (hh : cd.hasDict = true) :
    ∀ {fs : List Str} {asg : List Stmt}, IsAsg fs asg → (∀ f ∈ fs, env.kindOf f = some .local ∧ m f = some (val f) ∧ (f == ("__debug__" : Str)) = false ∧ findIn K (.ref C) f = some none) →
    ∀ {hp : Heap} {t : Nat} {done : List (Str × Value)} {Q : Flow → Shared → Prop}, done.length + fs.length ≤ 900 → (∀ b o, b ≠ x → h0.get? b = some o → hp.get? b = some o) → h0.objs.size ≤ env.locals → hp.Ns env.locals m → ExAt (env.locals + 1) hp x C done →
    (∀ hp' t', (∀ b o, b ≠ x → h0.get? b = some o → hp'.get? b = some o) → ExAt (env.locals + 1) hp' x C ((fs.map fun f => (f, val f)).reverse ++ done) → Q .next ⟨hp', g, d, t', os⟩) →
    wpAny (model prog w) A (execs asg env) Q E ⟨hp, g, d, t, os⟩ := by
  intro fs asg ia
  induction ia with
  | nil =>
    intro _ hp t done Q _ keep _ _ ex hq
    exact wpAny_execs_nil (hq hp t keep ex)
  | @cons f fs q1 q2 q3 q4 r ta ih =>
    intro hf hp t done Q hlen keep hL hns ex hq
    obtain ⟨hkf, hmf, hdb, hno⟩ := hf f (List.mem_cons_self ..)
    have XK : K.In hp := fun a o e => keep a o (fun z => by rw [z, hnx] at e; cases e) (X0 a o e)
    refine wpAny_execs_cons (plainObj_wpAny_Assign_Attribute ?_)
    refine wpAny_Name (wpAny_loadName_local hk hkf hns hmf (wpAny_Name (wpAny_loadName_local hk hself hns hms ?_) (by decide))) hdb
    have fin : ∀ hp' t', (∀ b o, b ≠ x → h0.get? b = some o → hp'.get? b = some o) → hp'.Ns env.locals m → ExAt (env.locals + 1) hp' x C ((f, val f) :: done) →
        wpAny (model prog w) A (execs r env) Q E ⟨hp', g, d, t', os⟩ := fun hp' t' keep' hns' ex' => by
      refine ih (fun f' hf' => hf f' (List.mem_cons_of_mem _ hf')) ?_ keep' hL hns' ex' fun hp2 t2 k2 e2 => hq hp2 t2 k2 ?_
      · simp only [List.length_cons] at hlen ⊢
        omega
      · simpa using e2
    rcases ex with ⟨rfl, t1, hx⟩ | ⟨_, dx, t1, hn, hdx, hx, hd1⟩
    · refine set_plain XK (ox := excO C t1) (od := none) ⟨hx, rfl, rfl, trivial⟩ sa ?_
      refine osa_first XK hx hcd hpass hob hh hno (fun h' tk' dx k hsz hne hx' hn' => ?_)
      have hLt : env.locals < hp.objs.size := hns.lt
      refine fin h' tk' (fun b o hb e => k b o hb (keep b o hb e)) (hns.at fun o e => k _ o hxL e) (.inr ⟨List.cons_ne_nil _ _, dx, t1, Nat.le_trans (Nat.succ_le_of_lt hLt) hsz, hne, hx', ?_⟩)
      have e := lookup_cons_fun f (val f) []
      have e2 : (fun y => if y = f then some (val f) else none) = fun y => ([(f, val f)] : List (Str × Value)).lookup y := e
      rw [← e2]
      exact hn'
    · obtain ⟨oD, _, _, hoD, _, _⟩ := hd1.count (within_lookup done)
      refine set_plain XK (ox := { cls := .ref C, dict := some dx, data := .fields #[.ref t1, .none, .none, .none, .bool false, .none] }) (od := some oD) ⟨hx, rfl, rfl, hoD⟩ sa ?_
      refine osa_more XK hx hd1 (within_lookup done) (by rw [List.length_map]; omega) hcd hpass hob hh hno (fun h' tk' k hn' => ?_)
      refine fin h' tk' (fun b o hb e => k b o (fun z => ?_) (keep b o hb e)) (hns.at fun o e => k _ o (Nat.ne_of_lt (Nat.lt_of_succ_le hn)) e) (.inr ⟨List.cons_ne_nil _ _, dx, t1, hn, hdx, k _ _ (Ne.symm hdx) hx, ?_⟩)
      · have z2 : b < env.locals := Nat.lt_of_lt_of_le (Heap.lt_size e) hL
        exact Nat.ne_of_lt (Nat.lt_of_lt_of_le z2 (Nat.le_trans (Nat.le_succ _) hn)) z
      · rw [← lookup_cons_fun]
        exact hn'
end
end EK
end PySem
end
section
set_option Elab.async false
set_option linter.all false
set_option maxRecDepth 100000
set_option maxHeartbeats 4000000
/-! EK3: the whole of __init__, the call of the class -/
namespace PySem
namespace EK
open PySem.W PySem.Calls PyProof.Rows PySem.HandSPX
open Builtin Builtin.ObjectAttr
/-- super().__init__(txt), then the fields -/
def IsInit (fs : List Str) (body : List Stmt) : Prop := ∃ (txt : Str) (j : Nat) (p0 p1 p2 p3 p4 p5 : Pos) (asg : List Stmt),
  body = .Expr (.Call (.Attribute (.Call (.Name "super" p0) [] [] p1) "__init__" p2) [.Constant (.str txt) j p3] [] p4) p5 :: asg ∧ IsAsg fs asg ∧ (p2.endLine == p4.line) = true

/-- what the program's text says of a built-in base of errors -/
structure BaseT (B newId initId : String) (bmB : List Value) : Prop where
  FB : ExcBaseFacts B newId initId bmB
  KF : KxsFacts B initId
  pass : ∀ self, refuseLoop self "__setattr__" bmB = pure ()
  obj : bmB.contains (.type "object") = true
  noref : ∀ c : Addr, bmB.contains (.ref c) = false
theorem base_Value : BaseT "ValueError" "ValueError.__new__" "ValueError.__init__" [.type "ValueError", .type "Exception", .type "BaseException", .type "object"] :=
  ⟨F.excBase_ValueError, kxs_ValueError, F.store_ValueError.passes, by decide +kernel, fun _ => rfl⟩
theorem base_Lookup : BaseT "LookupError" "LookupError.__new__" "LookupError.__init__" [.type "LookupError", .type "Exception", .type "BaseException", .type "object"] :=
  ⟨F.excBase_LookupError, kxs_LookupError, F.store_LookupError.passes, by decide +kernel, fun _ => rfl⟩
theorem base_Runtime : BaseT "RuntimeError" "RuntimeError.__new__" "RuntimeError.__init__" [.type "RuntimeError", .type "Exception", .type "BaseException", .type "object"] :=
  ⟨F.excBase_RuntimeError, kxs_RuntimeError, F.store_RuntimeError.passes, by decide +kernel, fun _ => rfl⟩
theorem base_Arith : BaseT "ArithmeticError" "ArithmeticError.__new__" "ArithmeticError.__init__" [.type "ArithmeticError", .type "Exception", .type "BaseException", .type "object"] :=
  ⟨F.excBase_ArithmeticError, kxs_ArithmeticError, F.store_ArithmeticError.passes, by decide +kernel, fun _ => rfl⟩

theorem refs_contains (rs : List Addr) (bmB : List Value) (X : String) : (rs.map Value.ref ++ bmB).contains (.type X) = bmB.contains (.type X) := by
  induction rs with
  | nil => rfl
  | cons c r ih =>
    rw [List.map_cons, List.cons_append, List.contains_cons, ih]
    rfl
theorem refs_pass (rs : List Addr) (bmB : List Value) (h : ∀ self, refuseLoop self "__setattr__" bmB = pure ()) (self : Value) : refuseLoop self "__setattr__" (rs.map Value.ref ++ bmB) = pure () := by
  induction rs with
  | nil => exact h self
  | cons c r ih =>
    rw [List.map_cons, List.cons_append, refuseLoop_ref]
    exact ih

/-- what the written part K says of the error class at C (rs: the own classes above it), of its __init__ at fI -/
structure ErrT (prog : Program) (K : Frag) (C fI : Addr) (B newId initId : String) (bmB : List Value) (rs : List Addr) (fs : List Str) (fd : FuncData) : Prop where
  base : BaseT B newId initId bmB
  cls : ∃ nm q N bs sn sub ab col dd k0 k1 k2 k3 k5, K.lookup C = some (excClassObj nm q C N bs (rs.map Value.ref ++ bmB) true sn sub ab col dd k0 k1 k2 k3 k5 newId)
  sa : findIn K (.ref C) "__setattr__" = some (some (.builtin "object.__setattr__"))
  ga : findIn K (.ref C) "__getattribute__" = some (some (.builtin "BaseException.__getattribute__"))
  gg : findIn K (.ref C) "__getattr__" = some none
  noF : ∀ f ∈ fs, findIn K (.ref C) f = some none
  few : fs.length ≤ 100
  ndb : ∀ f ∈ fs, (f == ("__debug__" : Str)) = false
  iC : findIn K (.ref C) "__init__" = some (some (.ref fI))
  tC : typeIn K (.ref fI) = some (.type "function")
  kC : keepIn K (.ref C) = true
  exC : subIn K (.ref C) (.type "BaseException") = some true
  tyC : typeIn K (.ref C) = some (.type "type")
  hdC : hasDictIn K C = true
  opq : nsIn K cStatics "thirdparty.any" = some none
  sup : ks_superIn K C C "__init__" = some (some (.builtin initId))
  subB : subIn K (.ref C) (.type B) = some true
  top : (prog.main.scope.names.lookup ("super" : Str)).isSome = false
  fn : ∃ (oc : Value) (od : Option Addr) (osl : Array (Option Value)) (qual : Str) (params : Arguments) (body : List Stmt) (scope : Scope) (dV kV doc pm : Value) (an : Option Addr) (cda : Addr) (ct : Value) (cc : Addr),
    fd = ksFn "__init__" qual params body scope dV kV doc pm an (.ref cda) ct cc ∧ K.lookup fI = some ⟨oc, od, .func fd, osl⟩ ∧ codeIn K (.ref cda) qual = true ∧
    (∃ ccl cdd vs ccs file tf, K.lookup cda = some ⟨ccl, cdd, .fields vs, ccs⟩ ∧ vs[2]? = some (.str file tf) ∧ ((prog.main.file : Str) == file) = true) ∧
    (∃ cl cld csl, K.lookup cc = some ⟨cl, cld, .cell (some (.ref C)), csl⟩) ∧ IsInit fs body ∧
    (∃ ar, (params.posonlyargs ++ params.args).head? = some ar ∧ ar.arg = "self") ∧
    scope.names.lookup ("super" : Str) = some .globalImplicit ∧ scope.names.lookup ("__class__" : Str) = some .free ∧ scope.names.lookup ("self" : Str) = some .local ∧ (∀ f ∈ fs, scope.names.lookup f = some .local) ∧
    (∀ x ∈ scope.names, x.2 ≠ .cell) ∧ scope.isCoroutine = false ∧ scope.isGenerator = false ∧ scope.kind = .function

section
variable {prog : Program} {w : World} {A : Around} {E : Value → Shared → Prop} {R : Result → Shared → Prop} {K : Frag} {C fI : Addr} {B newId initId : String} {bmB : List Value} {rs : List Addr} {fs : List Str} {fd : FuncData}
theorem ErrT.clsIn (T : ErrT prog K C fI B newId initId bmB rs fs fd) : ∃ cd, W.clsIn K C = some cd ∧ cd.mro = .ref C :: (rs.map Value.ref ++ bmB) ∧ cd.hasDict = true := by
  obtain ⟨nm, q, N, bs, sn, sub, ab, col, dd, k0, k1, k2, k3, k5, hC⟩ := T.cls
  refine ⟨{ name := nm, bases := bs, mro := .ref C :: (rs.map Value.ref ++ bmB), ns := N, qualname := q, hasDict := true, slotNames := sn, subclasses := sub, abstract := ab, collection := col, hasDel := false }, ?_, rfl, rfl⟩
  unfold W.clsIn
  rw [hC] <;> rfl
theorem err_init (T : ErrT prog K C fI B newId initId bmB rs fs fd) {s : Shared} {x t0 : Addr} {args : Args} {binds : List (Str × Value)} {val : Str → Value} {mg mb : Str → Option Value}
    (X : K.In s.heap) (hlim : s.heap.NoLimit) (hG : s.heap.Ns mainGlobals mg) (hGs : mg ("super" : Str) = none) (hB : s.heap.Ns builtinsNs mb) (hBs : mb ("super" : Str) = some (.type "super"))
    (hx : s.heap.get? x = some (excO C t0)) (hnx : K.lookup x = none) (hroom : A.depth < recursionLimit) (hbind : BindsTo s fd args binds) (hloc : ∀ y ∈ binds, fd.scope.names.lookup y.1 = some .local)
    (hms : binds.reverse.lookup ("self" : Str) = some (.ref x)) (hval : ∀ f ∈ fs, binds.reverse.lookup f = some (val f))
    (hq : ∀ h' tk, (∀ b o, b ≠ x → s.heap.get? b = some o → h'.get? b = some o) → ExAt (s.heap.objs.size + 1) h' x C (fs.map fun f => (f, val f)).reverse → R (.ok (.ret .none)) { s with heap := h', toks := tk }) :
    codeAny (model prog w) A (.call (.ref fI) args) R s := by
  obtain ⟨nm, q, N, bs, sn, sub, ab, col, dd, k0, k1, k2, k3, k5, hC⟩ := T.cls
  obtain ⟨cd, hcd, hmro, hhd⟩ := T.clsIn
  obtain ⟨oc, od, osl, qual, params, body, scope, dV, kV, doc, pm, an, cda, ct, cc, rfl, hfI, hcode, ⟨ccl, cdd, vs, ccs, file, tf, hcda, hvs, hfile⟩, ⟨cl, cld, csl, hcc⟩, ⟨txt, j, p0, p1, p2, p3, p4, p5, asg, rfl, hasg, hline⟩, ⟨ar, hp, har⟩, hks, hkc, hkself, hkf, hcell, hco, hgen, hk⟩ := T.fn
  refine ks_codeAny_call_defAt (fd := ksFn "__init__" qual params _ scope dV kV doc pm an (.ref cda) ct cc) (binds := binds) hroom (X _ _ hfI) rfl hlim (codeRec_of X hcode) rfl hbind hcell hloc (fun h₁ hns hk₁ => ?_) hco hgen hk
  have X1 : K.In h₁ := X.keeps hk₁
  have hx1 := hk₁ _ _ hx
  have hxL : s.heap.objs.size ≠ x := Nat.ne_of_gt (Heap.lt_size hx)
  have hxC : x ≠ C := fun z => by
    rw [← z] at hC
    rw [hnx] at hC
    cases hC
  have hD1 : h₁.get? C = some _ := X1 _ _ hC
  have hpass : ∀ self, refuseLoop self "__setattr__" cd.mro = pure () := fun self => by
    rw [hmro, refuseLoop_ref]
    exact refs_pass rs bmB T.base.pass self
  have hobj : cd.mro.contains (.type "object") = true := by
    rw [hmro, List.contains_cons, refs_contains, T.base.obj, Bool.or_true]
  obtain ⟨hp0, g, d, tk, os⟩ := s
  have hform : methodCallForm 1 (backTo p4 (starEach [.Constant (.str txt) j p3] (ksEnv qual scope hp0.objs.size fI (.ref cda) cc))) (backToKw p4 (keywordEach [] (ksEnv qual scope hp0.objs.size fI (.ref cda) cc))) = true := rfl
  have hint : interactive (ksEnv qual scope hp0.objs.size fI (.ref cda) cc) = false := by
    show (scope.kind == .module && _) = false
    rw [hk]
    rfl
  refine ks_wpAt_execs_cons (ks_wpAt_Expr_any (ks_wpAt_MethodCall (pl := L2.plainOf (.Call (.Name "super" p0) [] [] p1) (ksEnv qual scope hp0.objs.size fI (.ref cda) cc)) ?_
    (bind_congr fun ov => bind_congr fun _ => L2.mcall_line hform hline)) hint)
  refine ks_wpAt_super_base (env := ksEnv qual scope hp0.objs.size fI (.ref cda) cc) hks hkc (by decide) rfl (X1 _ _ hfI) rfl hp rfl (X1 _ _ hcda) rfl hvs hfile T.top ?_
  refine ks_loadName_global hk hks (loadGlobal_builtin (env := ksEnv qual scope hp0.objs.size fI (.ref cda) cc) (hG.keeps hk₁) hGs (hB.keeps hk₁) hBs ⟨rfl, ?_⟩)
  refine wpAny_loadName_free hk hkc rfl ⟨_, X1 _ _ hcc, rfl⟩ ?_
  rw [har]
  refine wpAny_loadName_local hk hkself hns hms ?_
  refine ks_wpAny_isType_cls hD1 rfl ⟨rfl, ?_⟩
  have hsub : W.Looks (model prog w) h₁ (isSubtype (.ref C) (.ref C)) true := W.looks_mroIn X1 (by
    unfold W.mroIn
    rw [hcd, Option.bind_some, hmro, if_neg (show ¬ (List.isEmpty (Value.ref C :: (rs.map Value.ref ++ bmB)) = true) from Bool.false_ne_true)]
    simp)
  refine ks_wpAny_call_super hD1 rfl hx1 rfl (fun c e => by cases e) hsub (fun h₂ e₂ k₂ => ?_)
  have X2 : K.In h₂ := X1.keeps k₂
  have hx2 := k₂ _ _ hx1
  have hI : W.Looks (model prog w) h₂ (isInstance (.ref x) (.type B)) true := (W.InstAt.type (x := x) (C := C) (ox := excO C t0) (od := none) ⟨hx2, rfl, rfl, trivial⟩).andThen (looks_subIn X2 T.subB)
  have hsup : alongIn K "__init__" ((cd.mro.dropWhile (· != .ref C)).drop 1) = some (some (.builtin initId)) := by
    have z := T.sup
    unfold ks_superIn at z
    rw [hcd] at z
    exact z
  refine kxs_getMethod T.base.KF e₂ (looks_opaque X2 T.opq) (l₀ := cd.mro) ((W.looks_clsIn X2 hcd).andThen .now) rfl X2 hsup hI hxC (by decide) ?_
  have k₃ : ∀ b o, h₂.get? b = some o → (h₂.push (kxs_mw initId x)).get? b = some o := fun b o e => Heap.get?_push_of_some _ e
  have hu : (h₂.push (kxs_mw initId x)).get? h₂.objs.size = some (kxs_mw initId x) := Heap.get?_push_at rfl rfl
  refine kxs_callWith (i := initId) (x := x) rfl ?_
  show wpAny _ _ (evalArgs (.ref h₂.objs.size) true (backTo p4 (starEach [.Constant (.str txt) j p3] (ksEnv qual scope hp0.objs.size fI (.ref cda) cc))) []) _ _ _
  refine evalArgs_plain (Calls.spliced_cons (wpAny_Constant_str (k := j) (pos := p3) (Calls.spliced_nil ⟨hu, ?_⟩)))
  refine call_mw (rest := [_]) T.base.FB ((X2.keeps k₃) _ _ hC) (k₃ _ _ hx2) hu (by rw [sizeLine_eq]; show 1 ≤ 16777216; decide) (fun h₄ t4 k₄ e₄ => ?_)
  have keep4 : ∀ b o, b ≠ x → hp0.get? b = some o → h₄.get? b = some o := fun b o hb e => k₄ b o hb (k₃ _ _ (k₂ _ _ (hk₁ _ _ e)))
  have hns4 : h₄.Ns hp0.objs.size (fun y => binds.reverse.lookup y) := hns.at fun o e => k₄ _ o hxL (k₃ _ _ (k₂ _ _ e))
  refine wpAt_of_wpAny (asgs (env := ksEnv qual scope hp0.objs.size fI (.ref cda) cc) (h0 := hp0) (x := x) (C := C) (m := fun y => binds.reverse.lookup y) (val := val) X hnx hxL hk hkself hms T.sa hcd hpass hobj hhd hasg
    (fun f hf => ⟨hkf f hf, hval f hf, T.ndb f hf, T.noF f hf⟩) (done := []) (by have := T.few; simp only [List.length_nil]; omega) keep4 (Nat.le_refl _) hns4 (.inl ⟨rfl, t4, e₄⟩) fun h₅ t5 k₅ e₅ => ?_)
  refine hq h₅ t5 k₅ ?_
  rw [List.append_nil] at e₅
  exact e₅
end
end EK
end PySem
end
section
set_option Elab.async false
set_option linter.all false
set_option maxRecDepth 100000
set_option maxHeartbeats 4000000
/-! EK4: the class called, as a rule of the layer: a new exception as a value -/
namespace PySem
namespace EK
open PySem.W PySem.Calls PyProof.Rows PySem.HandSPX
/-! ### lists of names and values -/
section
variable {α : Type}
theorem lookup_map_rev (val : Str → α) (fs : List Str) (y : Str) : ((fs.map fun f => (f, val f)).reverse).lookup y = if y ∈ fs then some (val y) else none := by
  have key : ∀ l : List Str, (l.map fun f => (f, val f)).lookup y = if y ∈ l then some (val y) else none := by
    intro l
    induction l with
    | nil => simp
    | cons f r ih =>
      by_cases e : y = f
      · subst e
        simp [List.lookup]
      · have q : (y == f) = false := by simpa using e
        simp [List.lookup, q, ih, e]
  rw [← List.map_reverse, key]
  simp
theorem zip_lookup_none {fs : List Str} {vs : List α} {y : Str} (h : y ∉ fs) : (fs.zip vs).lookup y = none := by
  induction fs generalizing vs with
  | nil => simp
  | cons f r ih =>
    cases vs with
    | nil => simp
    | cons v t =>
      have e : (y == f) = false := by
        simp only [beq_eq_false_iff_ne, ne_eq]
        exact fun z => h (by rw [z]; exact List.mem_cons_self ..)
      simp only [List.zip_cons_cons, List.lookup, e]
      exact ih fun z => h (List.mem_cons_of_mem _ z)
theorem zip_lookup_some {fs : List Str} {vs : List α} {y : Str} (hl : vs.length = fs.length) (h : y ∈ fs) : ∃ v, (fs.zip vs).lookup y = some v := by
  induction fs generalizing vs with
  | nil => cases h
  | cons f r ih =>
    cases vs with
    | nil => cases hl
    | cons v t =>
      by_cases e : y = f
      · subst e
        exact ⟨v, by simp [List.lookup]⟩
      · have q : (y == f) = false := by simpa using e
        obtain ⟨u, hu⟩ := ih (vs := t) (by simpa using hl) (by
          rcases List.mem_cons.mp h with z | z
          · exact absurd z e
          · exact z)
        exact ⟨u, by simp only [List.zip_cons_cons, List.lookup, q]; exact hu⟩
theorem lookup_none_of_not_mem {l : List (Str × α)} {y : Str} (h : y ∉ l.map (·.1)) : l.lookup y = none := by
  induction l with
  | nil => rfl
  | cons p r ih =>
    obtain ⟨f, v⟩ := p
    have e : (y == f) = false := by
      simp only [beq_eq_false_iff_ne, ne_eq]
      exact fun z => h (by rw [z]; exact List.mem_cons_self ..)
    simp only [List.lookup, e]
    exact ih fun z => h (List.mem_cons_of_mem _ z)
theorem lookup_append' (l r : List (Str × α)) (y : Str) : (l ++ r).lookup y = (l.lookup y).or (r.lookup y) := by
  induction l with
  | nil => simp
  | cons p t ih =>
    obtain ⟨f, v⟩ := p
    by_cases e : y = f
    · subst e
      simp [List.lookup]
    · have q : (y == f) = false := by simpa using e
      simp [List.lookup, q, ih]
theorem lookup_rev {l : List (Str × α)} (h : (l.map (·.1)).Nodup) (y : Str) : l.reverse.lookup y = l.lookup y := by
  induction l with
  | nil => rfl
  | cons p r ih =>
    obtain ⟨f, v⟩ := p
    simp only [List.map_cons, List.nodup_cons] at h
    rw [List.reverse_cons, lookup_append', ih h.2]
    by_cases e : y = f
    · subst e
      rw [lookup_none_of_not_mem h.1]
      simp [List.lookup]
    · have q : (y == f) = false := by simpa using e
      simp [List.lookup, q]
theorem zip_keys {fs : List Str} {vs : List α} (hl : vs.length = fs.length) : (fs.zip vs).map (·.1) = fs := by
  induction fs generalizing vs with
  | nil => simp
  | cons f r ih =>
    cases vs with
    | nil => cases hl
    | cons v t => simp [ih (vs := t) (by simpa using hl)]
end
/-- how a call binds the fields: n values by position, keywords ks; g: the values in the fields' order -/
structure EB (fd : FuncData) (fs : List Str) (n : Nat) (ks : List Str) (g : {α : Type} → List α → List α → List α) : Prop where
  to : ∀ (s : Shared) (self : Value) (us ws : List Value), us.length = n → ws.length = ks.length → BindsTo s fd ⟨self :: us, ks.zip ws⟩ (("self", self) :: fs.zip (g us ws))
  nd : fs.Nodup
  noSelf : ("self" : Str) ∉ fs
  rel : ∀ {vs zs : List L2.V} {us ws : List Value}, L2.Vals vs us → L2.Vals zs ws → L2.Vals (g vs zs) (g us ws)
section
variable {prog : Program} {w : World} {A : Around} {R : Result → Shared → Prop} {K : Frag} {C fI : Addr} {B newId initId : String} {bmB : List Value} {rs : List Addr} {fs : List Str} {fd : FuncData} {n : Nat} {ks : List Str} {g : {α : Type} → List α → List α → List α}
theorem err_made (T : ErrT prog K C fI B newId initId bmB rs fs fd) (eb : EB fd fs n ks g) {s : Shared} {us ws : List Value} {mg mb : Str → Option Value}
    (X : K.In s.heap) (hlim : s.heap.NoLimit) (hG : s.heap.Ns mainGlobals mg) (hGs : mg ("super" : Str) = none) (hB : s.heap.Ns builtinsNs mb) (hBs : mb ("super" : Str) = some (.type "super"))
    (hroom : A.depth + 1 < recursionLimit) (hus : us.length = n) (hws : ws.length = ks.length) (hlen : (g us ws).length = fs.length) (hsz : us.length ≤ sizeLine)
    (hq : ∀ h' tk, (∀ b o, s.heap.get? b = some o → h'.get? b = some o) → ExAt (s.heap.objs.size + 3) h' (s.heap.objs.size + 1) C (fs.map fun f => (f, ((fs.zip (g us ws)).lookup f).getD .none)).reverse →
      R (.ok (.ret (.ref (s.heap.objs.size + 1)))) { s with heap := h', toks := tk }) :
    codeAny (model prog w) A (.call (.ref C) ⟨us, ks.zip ws⟩) R s := by
  obtain ⟨nm, q, N, bs, sn, sub, ab, col, dd, k0, k1, k2, k3, k5, hC⟩ := T.cls
  obtain ⟨hp, gs, dr, tk, os⟩ := s
  have k : ∀ b o, hp.get? b = some o → ((hp.push (kdv_tup us)).push (excO C hp.objs.size)).get? b = some o := fun b o e => Heap.get?_push_of_some _ (Heap.get?_push_of_some _ e)
  have hget : ((hp.push (kdv_tup us)).push (excO C hp.objs.size)).get? (hp.objs.size + 1) = some (excO C hp.objs.size) := by heap_get
  have hsize : ((hp.push (kdv_tup us)).push (excO C hp.objs.size)).objs.size = hp.objs.size + 2 := by simp only [Heap.size_push]
  have hnx : K.lookup (hp.objs.size + 1) = none := by
    cases e : K.lookup (hp.objs.size + 1) with
    | none => rfl
    | some o =>
      have z : hp.get? (hp.objs.size + 1) = some o := X _ _ e
      exact absurd (Nat.lt_of_succ_lt (Heap.lt_size z)) (Nat.lt_irrefl _)
  have hkeys : ((("self" : Str), Value.ref (hp.objs.size + 1)) :: fs.zip (g us ws)).map (·.1) = ("self" : Str) :: fs := by rw [List.map_cons, zip_keys hlen]
  have hnd : (((("self" : Str), Value.ref (hp.objs.size + 1)) :: fs.zip (g us ws)).map (·.1)).Nodup := by
    rw [hkeys]
    exact List.nodup_cons.mpr ⟨eb.noSelf, eb.nd⟩
  have hscope : fd.scope.names.lookup ("self" : Str) = some .local ∧ ∀ f ∈ fs, fd.scope.names.lookup f = some .local := by
    obtain ⟨oc, od, osl, qual, params, body, scope, dV, kV, doc, pm, an, cda, ct, cc, rfl, _, _, _, _, _, _, _, _, h3, h4, _⟩ := T.fn
    exact ⟨h3, h4⟩
  refine call_ownK T.base.FB (refs_contains rs bmB) (X _ _ hC) (looks_findIn X T.iC) (fun self => bind_fn X self T.tC) hsz ?_
  refine err_init T (s := ⟨(hp.push (kdv_tup us)).push (excO C hp.objs.size), gs, dr, tk, os⟩) (x := hp.objs.size + 1) (binds := ("self", .ref (hp.objs.size + 1)) :: fs.zip (g us ws)) (val := fun f => ((fs.zip (g us ws)).lookup f).getD .none)
    (X.keeps k) (hlim.keeps k) (hG.keeps k) hGs (hB.keeps k) hBs hget hnx (by show A.depth + 1 < recursionLimit; exact hroom) (eb.to _ _ us ws hus hws) (fun y hy => ?_) ?_ (fun f hf => ?_) fun h' tk' keep ex => ?_
  · rcases List.mem_cons.mp hy with rfl | hy
    · exact hscope.1
    · refine hscope.2 y.1 ?_
      have z : y.1 ∈ (fs.zip (g us ws)).map (·.1) := List.mem_map_of_mem hy
      rw [zip_keys hlen] at z
      exact z
  · rw [lookup_rev hnd]
    simp [List.lookup]
  · rw [lookup_rev hnd]
    have e : (f == ("self" : Str)) = false := by
      simp only [beq_eq_false_iff_ne, ne_eq]
      exact fun z => eb.noSelf (by rw [← z]; exact hf)
    obtain ⟨v, hv⟩ := zip_lookup_some (vs := g us ws) hlen hf
    simp only [List.lookup, e, hv]
    rfl
  · refine ⟨rfl, hq h' tk' (fun b o e => keep b o (Nat.ne_of_lt (Nat.lt_succ_of_lt (Heap.lt_size e))) (k b o e)) ?_⟩
    rw [hsize] at ex
    exact ex
end
end EK
end PySem
end
section
set_option Elab.async false
set_option linter.all false
set_option maxRecDepth 100000
set_option maxHeartbeats 4000000
/-! EK5: rules of the layer: an error made as a value; its fields read -/
namespace L2
open PySem PySem.Spec PyProof.Rows PySem.EK
/-- the heap behind C(..): the error at e, its dict at d (none without fields) -/
def errH (H : Hp) (e C d : Addr) (fs : List Str) (vs : List V) : Hp := match fs with
  | [] => upd H e (exo e C none)
  | f :: r => upd (upd H d (exd d ((f :: r).zip vs))) e (exo e C (some d))
def tErr (C : Addr) (fs : List Str) (n m : Nat) (g : {α : Type} → List α → List α → List α) (ta tk : TA) : TE := fun σ H Q => ta σ H fun vs H1 => tk σ H1 fun zs H2 =>
  vs.length = n ∧ zs.length = m ∧ (g vs zs).length = fs.length ∧ ∀ e d, H2 e = none → H2 d = none → d ≠ e → Q (.ref e) (errH H2 e C d fs (g vs zs))
theorem zip_rel {fs : List Str} {vs : List V} {us : List Value} (r : Vals vs us) (hl : vs.length = fs.length) (y : Str) : RelO ((fs.zip vs).lookup y) ((fs.zip us).lookup y) := by
  induction fs generalizing vs us with
  | nil => simp [RelO]
  | cons f t ih =>
    cases r with
    | nil => cases hl
    | @cons v u vs us rv r =>
      by_cases e : y = f
      · subst e
        simpa [List.lookup, RelO] using rv
      · have q : (y == f) = false := by simpa using e
        simp only [List.zip_cons_cons, List.lookup, q]
        exact ih r (by simpa using hl)
theorem done_lookup {fs : List Str} {us : List Value} (hl : us.length = fs.length) (y : Str) : ((fs.map fun f => (f, ((fs.zip us).lookup f).getD .none)).reverse).lookup y = (fs.zip us).lookup y := by
  rw [lookup_map_rev (fun f => ((fs.zip us).lookup f).getD .none)]
  by_cases h : y ∈ fs
  · obtain ⟨v, hv⟩ := zip_lookup_some (vs := us) hl h
    rw [if_pos h, hv]
    rfl
  · rw [if_neg h, zip_lookup_none h]
section
variable {X : Cx} {pins : List (Addr × Obj)} {σ : St} {H : Hp} {s : Shared} {C fI : Addr} {B newId initId : String} {bmB : List Value} {rs : List Addr} {fs : List Str} {fd : FuncData} {n k : Nat} {ks : List Str} {g : {α : Type} → List α → List α → List α}
theorem run_err {Q : VK} {us ws : List Value} {vs zs : List V} (T : ErrT X.prog X.K C fI B newId initId bmB rs fs fd) (eb : EB fd fs n ks g) (hr : Room k X.A) (hS : X.mg ("super" : Str) = none) (I : Inv X pins σ H s) (r : Vals vs us) (rz : Vals zs ws)
    (h : vs.length = n ∧ zs.length = ks.length ∧ (g vs zs).length = fs.length ∧ ∀ e d, H e = none → H d = none → d ≠ e → Q (.ref e) (errH H e C d fs (g vs zs))) (hn : n ≤ 100) :
    wpAny (model X.prog X.w) X.A (call (.ref C) us (ks.zip ws)) (EP X pins σ Q) X.xe s := by
  obtain ⟨h1, h2, h3, hQ⟩ := h
  obtain ⟨mb, hb1, hb2⟩ := I.mod.blt
  have rg := eb.rel r rz
  have hlen : (g us ws).length = fs.length := by rw [← rg.length]; exact h3
  refine wpAny_call (err_made T eb (R := _) I.kIn I.nolimit (I.mod.glob.keeps I.bk) hS (hb1.keeps I.bk) ((hb2 _ (by decide +kernel)).trans (by first | boot_by_name | rfl | kernel_rfl)) (by have := hr.dp; omega) (r.length.symm.trans h1) (rz.length.symm.trans h2) hlen (by rw [← r.length, h1, sizeLine_eq]; omega) fun h' tk keep ex => ?_)
  have sz1 : s.heap.objs.size ≤ s.heap.objs.size + 1 := Nat.le_succ _
  have fr : ∀ a, s.heap.objs.size ≤ a → H a = none := fun a z => I.hok.fresh z
  cases fs with
  | nil =>
    rcases ex with ⟨_, t, e⟩ | ⟨z, _⟩
    · exact ⟨.ref (s.heap.objs.size + 1), upd H (s.heap.objs.size + 1) (exo (s.heap.objs.size + 1) C none), I.laid keep sz1 (exo_ok e), rfl, hQ _ s.heap.objs.size (fr _ sz1) (fr _ (Nat.le_refl _)) (Nat.ne_of_lt (Nat.lt_succ_self _))⟩
    · exact absurd rfl z
  | cons f t =>
    rcases ex with ⟨z, _⟩ | ⟨_, dx, t1, hn, hne, e, hns⟩
    · simp at z
    · have szd : s.heap.objs.size ≤ dx := Nat.le_trans (Nat.le_add_right _ 3) hn
      have hd : ObjOk X.prog X.w (upd H dx (exd dx ((f :: t).zip (g vs zs)))) h' dx (exd dx ((f :: t).zip (g vs zs))) := exd_ok hns fun y => by
        rw [done_lookup hlen]
        exact zip_rel rg h3 y
      have I1 := I.laid (t' := tk) keep szd hd
      have hx : H (s.heap.objs.size + 1) = none := fr _ sz1
      have U : Un X.fs [] H (upd (upd H dx (exd dx ((f :: t).zip (g vs zs)))) (s.heap.objs.size + 1) (exo (s.heap.objs.size + 1) C (some dx))) s.heap h' := {
        keep := fun b o q _ _ _ => keep b o q
        slot := fun b o q _ _ _ => ⟨o.slots, keep b o q⟩
        free := fun b o q n _ => by
          rw [upd_ne (Nat.ne_of_lt (Nat.lt_of_lt_of_le (Heap.lt_size q) sz1)), upd_ne (Nat.ne_of_lt (Nat.lt_of_lt_of_le (Heap.lt_size q) szd))]
          exact n
        there := fun b o q _ => ⟨o, keep b o q⟩
        tups := fun b xs q => by
          rw [upd_ne (ne_of_none q hx), upd_ne (ne_of_none q (fr _ szd))]
          exact q
        frzs := fun b o v q => by
          rw [upd_ne (ne_of_none q hx), upd_ne (ne_of_none q (fr _ szd))]
          exact q
        tbls := fun b ps q => ⟨#[], by
          rw [upd_ne (ne_of_none q hx), upd_ne (ne_of_none q (fr _ szd)), q]
          simp⟩ }
      refine ⟨.ref (s.heap.objs.size + 1), _, I.un (t' := tk) U fun b o q => ?_, rfl, hQ _ dx hx (fr _ szd) hne⟩
      by_cases hb : b = s.heap.objs.size + 1
      · subst hb
        rw [upd_same] at q
        cases q
        exact exo_ok e
      · rw [upd_ne hb] at q
        have z := I1.hok b o q
        have hx1 : upd H dx (exd dx ((f :: t).zip (g vs zs))) (s.heap.objs.size + 1) = none := by
          rw [upd_ne (Ne.symm hne)]
          exact hx
        exact z.stay (fun c v _ y => y) (fun c y => by rw [upd_ne (ne_of_none y hx1)]; exact y) fun c xs y => by rw [upd_ne (ne_of_none y hx1)]; exact y
variable {x : Str} {p pos : Pos} {e : Expr} {es : List Expr} {kws : List Keyword} {ta tk : TA}
/-- C(e, ..) -/
theorem pe_err (T : ErrT X.prog X.K C fI B newId initId bmB rs fs fd) (eb : EB fd fs n [] g) (hn : n ≤ 100) (hr : Room k X.A) (hS : X.mg ("super" : Str) = none) (hg : Gl X x) (hm : X.mg x = some (.ref C)) (ha : PA X (e :: es) ta)
    (hdb : (x == ("__debug__" : Str)) = false := by decide) (he : starEach (e :: es) X.env = (false, eval e X.env) :: starEach es X.env := by rfl) (hpl : (backTo pos (starEach es X.env)).any (·.1) = false := by rfl) :
    PE X (.Call (.Name x p) (e :: es) [] pos) (tErr C fs n 0 g ta tNil) := by
  refine ⟨fun pins s σ H Q I h => ?_⟩
  refine wpAny_Call_Name_kw (ld_glob I hg hm ?_ hdb)
  refine PySem.W.callWith_K (h₀ := X.base) I.ok.mod.kin T.kC (thn (ha.run pos pins s σ H _ I h) fun us s1 ⟨vs, H1, I1, r, q⟩ => ⟨I1.kIn, ?_⟩) he hpl
  exact run_err (us := us) (ws := []) (zs := []) T eb hr hS I1 r .nil q hn
/-- C() -/
theorem pe_err0 (T : ErrT X.prog X.K C fI B newId initId bmB rs fs fd) (eb : EB fd fs 0 [] g) (hr : Room k X.A) (hS : X.mg ("super" : Str) = none) (hg : Gl X x) (hm : X.mg x = some (.ref C)) (hdb : (x == ("__debug__" : Str)) = false := by decide) :
    PE X (.Call (.Name x p) [] [] pos) (tErr C fs 0 0 g tNil tNil) := by
  refine ⟨fun pins s σ H Q I h => ?_⟩
  refine wpAny_Call_Name_kw (ld_glob I hg hm ?_ hdb)
  exact PySem.W.callWith_K0 I.kIn T.kC (run_err (us := []) (ws := []) (vs := []) (zs := []) T eb hr hS I .nil .nil h (Nat.zero_le _))
/-- C(f = e, ..) -/
theorem pe_errK (T : ErrT X.prog X.K C fI B newId initId bmB rs fs fd) (eb : EB fd fs 0 ks g) (hr : Room k X.A) (hS : X.mg ("super" : Str) = none) (hg : Gl X x) (hm : X.mg x = some (.ref C)) (hkw : PK X kws tk)
    (hall : (backToKw pos (keywordEach kws X.env)).all (·.1.isSome) = true := by rfl) (hks : (backToKw pos (keywordEach kws X.env)).filterMap (·.1) = ks := by rfl)
    (hdb : (x == ("__debug__" : Str)) = false := by decide) (hpl : ((backTo pos (starEach [] X.env)).any (·.1) || (backToKw pos (keywordEach kws X.env)).any (·.1.isNone)) = false := by rfl) :
    PE X (.Call (.Name x p) [] kws pos) (tErr C fs 0 ks.length g tNil tk) := by
  refine ⟨fun pins s σ H Q I h => ?_⟩
  refine wpAny_Call_Name_kw (ld_glob I hg hm ?_ hdb)
  refine PySem.W.callWith_KW0 (h₀ := X.base) I.ok.mod.kin T.kC hall (thn (hkw.run pos pins s σ H _ I h) fun ws s1 ⟨zs, H1, I1, r, q⟩ => ⟨I1.kIn, ?_⟩) hpl
  rw [hks]
  exact run_err (us := []) (vs := []) T eb hr hS I1 .nil r q (Nat.zero_le _)
end
end L2
end
section
set_option Elab.async false
set_option linter.all false
set_option maxRecDepth 100000
set_option maxHeartbeats 4000000
/-! EK6: an error that stands in the heap: its fields read, isinstance -/
namespace L2
open PySem PySem.Spec PyProof.Rows PySem.EK
/-- at a stands an error of the class at C with the fields fs -/
def ErrAt (H : Hp) (a C : Addr) (fs : List (Str × V)) : Prop := (fs = [] ∧ H a = some (exo a C none)) ∨ ∃ d, H a = some (exo a C (some d)) ∧ H d = some (exd d fs)
theorem ErrAt.same {H H' : Hp} {a C : Addr} {fs : List (Str × V)} (k : Same H H') (h : ErrAt H a C fs) : ErrAt H' a C fs := by
  rcases h with ⟨e, h⟩ | ⟨d, h, h'⟩
  · exact .inl ⟨e, k _ _ h⟩
  · exact .inr ⟨d, k _ _ h, k _ _ h'⟩
theorem errAt_new {H : Hp} {e C d : Addr} {fs : List Str} {vs : List V} (hne : d ≠ e) : ErrAt (errH H e C d fs vs) e C (fs.zip vs) := by
  cases fs with
  | nil => exact .inl ⟨rfl, upd_same⟩
  | cons f r => exact .inr ⟨d, upd_same, by show upd _ e _ d = _; rw [upd_ne hne, upd_same]⟩
theorem same_errH {H : Hp} {e C d : Addr} {fs : List Str} {vs : List V} (he : H e = none) (hd : H d = none) : Same H (errH H e C d fs vs) := by
  intro b o q
  cases fs with
  | nil => show upd _ _ _ _ = _; rw [upd_ne (ne_of_none q he)]; exact q
  | cons f r => show upd _ _ _ _ = _; rw [upd_ne (ne_of_none q he), upd_ne (ne_of_none q hd)]; exact q
theorem ErrAt.inst {P : Program} {w : World} {H : Hp} {h : Heap} {a C : Addr} {fs : List (Str × V)} (x : ErrAt H a C fs) (hok : HOk P w H h) :
    ∃ oe od, PySem.W.InstAt h a oe C od ∧ ∀ f v, fs.lookup f = some v → ∃ o u, od = some o ∧ PySem.W.lookIn f o = some (some u) ∧ RelV v u := by
  rcases x with ⟨rfl, e⟩ | ⟨d, e, e'⟩
  · obtain ⟨t1, ho⟩ := exo_at hok e
    exact ⟨_, none, ⟨ho, rfl, rfl, trivial⟩, fun f v z => by cases z⟩
  · obtain ⟨t1, ho⟩ := exo_at hok e
    obtain ⟨mA, hns, rel⟩ := exd_at hok e'
    obtain ⟨od, hod, hl⟩ := lookIn_ns hns
    refine ⟨_, some od, ⟨ho, rfl, rfl, hod⟩, fun f v z => ?_⟩
    obtain ⟨u, hu, ru⟩ := RelO.some_of (v := v) (o := mA f) (by rw [← z]; exact rel f)
    exact ⟨od, u, rfl, by rw [hl, hu], ru⟩
/-- e.f of such an error -/
structure ErrA (K : PySem.W.Frag) (C : Addr) (f : Str) : Prop where
  ga : PySem.W.findIn K (.ref C) "__getattribute__" = some (some (.builtin "BaseException.__getattribute__"))
  gg : PySem.W.findIn K (.ref C) "__getattr__" = some none
  ex : PySem.W.subIn K (.ref C) (.type "BaseException") = some true
  hd : PySem.W.hasDictIn K C = true
  no : PySem.W.findIn K (.ref C) f = some none
def tEA (K : PySem.W.Frag) (f : Str) (te : TE) : TE := fun σ H Q => te σ H fun x H1 => ∃ (a C : Addr) (fs : List (Str × V)) (v : V), x = .ref a ∧ ErrAt H1 a C fs ∧ ErrA K C f ∧ fs.lookup f = some v ∧ Q v H1
section
variable {X : Cx}
theorem pe_ea {e : Expr} {te : TE} {f : Str} {pos : Pos} (he : PE X e te) (hb : attributeBase e f X.env (eval e X.env) = eval e X.env := by rfl) : PE X (.Attribute e f pos) (tEA X.K f te) := by
  refine ⟨fun pins s σ H Q I h => ?_⟩
  refine attr_of hb (thn (he.run pins s σ H _ I h) fun u s1 hh => ?_)
  obtain ⟨x, H1, I1, rx, a, C, fs, v, ex, at_, A, hl, q⟩ := hh
  subst ex
  obtain rfl : u = Value.ref a := rx
  obtain ⟨oe, od, J, hf⟩ := at_.inst I1.hok
  obtain ⟨o, u, rfl, hu, ru⟩ := hf f v hl
  exact HandSPX.exc_get I1.kIn J A.ga A.gg A.ex (PySem.W.findObj_own A.hd A.no rfl hu) (handed_of ru) ⟨v, H1, I1.tok _, ru, q⟩
/-- isinstance(e, c) of such an error -/
def rIsX (K : PySem.W.Frag) : List V → Hp → VK → Prop := fun xs H Q => ∃ (a C : Addr) (fs : List (Str × V)) (c : V) (cv : Value) (b : Bool), xs = [.ref a, c] ∧ ErrAt H a C fs ∧ ExcC K C ∧ ClsV c cv ∧ PySem.W.kitOne K (.ref C) cv = some b ∧ Q (.bl b) H
theorem kitx_errAt {K : PySem.W.Frag} {a D : Addr} {oe : Obj} {od : Option Obj} (C : ExcC K D) : PySem.W.KitX K (.ref a) (.ref D) (fun h => PySem.W.InstAt h a oe D od) where
  ty := fun _ _ _ I => I.type
  it := fun _ _ X _ => by
    obtain ⟨cdD, hcD, _⟩ := PySem.W.any_some C.hd
    unfold PySem.W.clsIn at hcD
    split at hcD
    · rename_i c' d' cd' sl' ho
      intro A' Q' E' s' k q
      unfold isType loadHead
      exact wpAny_bind (wpAny_loadPart (k _ _ (X _ _ ho)) (wpAny_pure q))
    · cases hcD
  ne := fun h tp dd its n sl X htp => by
    obtain ⟨cdD, hcD, _⟩ := PySem.W.any_some C.hd
    refine Bool.eq_false_iff.mpr fun q => ?_
    have e : D = tp := Value.ref.inj (beq_iff_eq.mp q)
    subst e
    unfold PySem.W.clsIn at hcD
    split at hcD
    · rename_i c' d' cd' sl' ho
      have z := (X _ _ ho).symm.trans htp
      cases z
    · cases hcD
  ca := fun X I k => PySem.W.kx_classE X I C.hg C.hk C.hs (PySem.W.findObj_dataE (by obtain ⟨cd, hc, _⟩ := PySem.W.any_some C.hd; rw [hc]; rfl) C.ha C.hn C.ht) C.hm k
theorem call_isX : CallR X (.builtin "isinstance") (rIsX X.K) := by
  intro pins s σ H xs us Q I r h
  obtain ⟨a, C, fs, c, cv, b, rfl, at_, E, k, e, q⟩ := h
  obtain ⟨u1, u2, rfl, r1, r2⟩ := vals2 r
  have e2 := k.eq r2
  subst e2
  cases (show u1 = Value.ref a from r1)
  obtain ⟨oe, od, J, _⟩ := at_.inst I.hok
  exact PySem.W.kia_one (kitx_errAt E) I.kIn J e (fun z => nomatch z) fun tk => ⟨.bl b, H, I.tok tk, rfl, q⟩
end
end L2
end
section
set_option Elab.async false
set_option linter.all false
set_option maxRecDepth 100000
set_option maxHeartbeats 4000000
/-! EK7: defs that are called where nothing is being shown (repr asks it); repr of data -/
namespace L2
open PySem PySem.Spec PyProof.Rows PySem.EK
/-- as FnOk, where no repr runs around -/
structure FnG (P : Program) (w : World) (K : PySem.W.Frag) (mg : Str → Option Value) (base : Heap) (CX : CXT) (k : Nat) (f : Addr) (fd : FuncData) (ps : List Str) (sp : Sp) : Prop where
  len : ∀ vs H Q E, sp vs H Q E → vs.length = ps.length
  run : ∀ (A : Around) (outer : List Env) (s : Shared) (H : Hp) (args : Args) (us : List Value) (vs : List V) (Q : VK) (E : XK), A.guards = some [] → Room k A → Env0 P w K mg base A outer s H → BindsTo s fd args (ps.zip us) → Vals vs us → sp vs H Q E →
    codeAny (model P w) A (.call (.ref f) args) (CR CX outer P w H s Q E) s
theorem FnOk.g {P : Program} {w : World} {K : PySem.W.Frag} {mg : Str → Option Value} {base : Heap} {CX : CXT} {k : Nat} {f : Addr} {fd : FuncData} {ps : List Str} {sp : Sp} (F : FnOk P w K mg base CX k f fd ps sp) : FnG P w K mg base CX k f fd ps sp :=
  ⟨F.len, fun A outer s H args us vs Q E _ => F.run A outer s H args us vs Q E⟩
theorem FnG.mono {P : Program} {w : World} {K : PySem.W.Frag} {mg : Str → Option Value} {base : Heap} {CX : CXT} {j k : Nat} {f : Addr} {fd : FuncData} {ps : List Str} {sp : Sp} (F : FnG P w K mg base CX j f fd ps sp) (h : j ≤ k) : FnG P w K mg base CX k f fd ps sp :=
  ⟨F.len, fun A outer s H args us vs Q E hg hr => F.run A outer s H args us vs Q E hg (hr.mono h)⟩
theorem fnG_of {CX : CXT} {P : Program} {w : World} {K : PySem.W.Frag} {mg : Str → Option Value} {base : Heap} {k : Nat} {f : Addr} {name qual : Str} {params : Arguments} {body : List Stmt} {scope : Scope} {dV kV doc pm cdv ct oc : Value} {an od : Option Addr}
    {osl : Array (Option Value)} {N ps : List Str} {sp : Sp} (lk : K.lookup f = some ⟨oc, od, .func (PySem.W.fnOf name qual params body scope dV kV doc pm an cdv ct), osl⟩) (hcd : PySem.W.codeIn K cdv qual = true) (S : FnScope N ps scope)
    (len : ∀ vs H Q E, sp vs H Q E → vs.length = ps.length)
    (hbody : ∀ (A : Around) (outer : List Env) (s : Shared) (H : Hp) (vs : List V) (Q : VK) (E : XK), A.guards = some [] → Room k (A.deeper (envOfC qual scope s.heap.objs.size f cdv)) → sp vs H Q E →
      ∃ t, PSs (cxOf CX P w K mg base N qual scope f cdv A outer s H E) body t ∧ t { nx := fun _ H' => Q .non H', rt := Q } (start N vs) H) :
    FnG P w K mg base CX (k + 1) f (PySem.W.fnOf name qual params body scope dV kV doc pm an cdv ct) ps sp := by
  refine ⟨len, fun A outer s H args us vs Q E hgd hr e0 hb r hsp => ?_⟩
  have hl := len _ _ _ _ hsp
  have KX : K.In s.heap := e0.mod.kin.keeps fun b o e => (e0.bs b o e).1
  have lim : s.heap.NoLimit := e0.mod.nolimit.keeps fun b o e => (e0.bs b o e).1
  have hkind : ∀ y ∈ ps.zip us, scope.names.lookup y.1 = some .local ∨ (scope.names.lookup y.1 = some .cell ∧ ((cellsFrom (s.heap.objs.size + 1) scope.names []).lookup y.1).isSome = true) := fun ⟨n, v⟩ hy => by
    rcases S.par n (List.of_mem_zip hy).1 with q | q
    · exact .inl q
    · exact .inr ⟨q, PySem.W.cellsFrom_some _ _ _ (.inl q)⟩
  refine codeAny_call_function hr.depth (KX _ _ lk) rfl S.co S.gen rfl (PySem.W.codeRec_of KX hcd) (hb _ _ _ _ ?_)
  refine wpAny_newFunctionEnv_cells S.kind hkind fun env he s1 x => ?_
  subst he
  refine ⟨lim.keeps x.toInCall.keep, codeAny_func ?_⟩
  obtain ⟨t, ht, hq⟩ := hbody A outer s H vs Q E hgd (hr.deeper _) hsp
  have I : Inv (cxOf CX P w K mg base N qual scope f cdv A outer s H E) [] (start N vs) H s1 := inv_start S hr.hd e0 hl r x
  refine wpAny_mono (ht.run [] s1 (start N vs) H _ I hq) (fun fl s' hs => ?_) fun e s' hs => hs
  have fin : ∀ {σ' : St} {H' : Hp} {v : V} {u : Value}, Inv (cxOf CX P w K mg base N qual scope f cdv A outer s H E) [] σ' H' s' → RelV v u → Q v H' → CE outer P w H s Q u s' :=
    fun {σ' H' v u} J rv q => ⟨v, H', J.os, J.bare, J.base, J.hok, rv, q⟩
  cases fl with
  | ret u =>
    obtain ⟨v, σ', H', J, rv, q⟩ := hs
    exact fin J rv q
  | next =>
    obtain ⟨σ', H', J, q⟩ := hs
    exact fin (v := V.non) (u := Value.none) J rfl q
  | brk =>
    obtain ⟨_, _, _, q⟩ := hs
    exact False.elim q
  | cont =>
    obtain ⟨_, _, _, q⟩ := hs
    exact False.elim q
section
variable {X : Cx} {CX : CXT} {k : Nat} {f : Addr} {fd : FuncData} {ps : List Str} {sp : Sp} {E : XK} {x : Str} {p pos : Pos} {e : Expr} {es : List Expr} {t : TA} {ds : List Value} {dvs : List V}
theorem run_fnG {pins : List (Addr × Obj)} {σ : St} {H : Hp} {s : Shared} {Q : VK} {us : List Value} {vs : List V} (F : FnG X.prog X.w X.K X.mg X.base CX k f fd ps sp) (hgd : X.A.guards = some []) (hr : Room k X.A) (hb : Binds X.K fd ps ds) (hd : Vals dvs ds) (hx : Passes CX X E)
    (I : Inv X pins σ H s) (r : Vals vs us) (h : sp (vs ++ dvs) H Q E) : wpAny (model X.prog X.w) X.A (call (.ref f) us) (EP X pins σ Q) X.xe s := by
  have r2 : Vals (vs ++ dvs) (us ++ ds) := r.append hd
  have hl : (us ++ ds).length = ps.length := by rw [← r2.length]; exact F.len _ _ _ _ h
  refine wpAny_call (codeAny_mono (F.run X.A X.stack s H ⟨us, []⟩ (us ++ ds) (vs ++ dvs) Q E hgd hr I.env0 (hb s us I.kIn hl) r2 h) fun r s' hq => ?_)
  cases r with
  | error e => exact hx pins σ H s e s' I hq
  | ok fl =>
    cases fl with
    | ret u => exact I.after hq
    | next => exact False.elim hq
    | brk => exact False.elim hq
    | cont => exact False.elim hq
/-- f(e, ..), f a def of that sort -/
theorem pe_callG (F : FnG X.prog X.w X.K X.mg X.base CX k f fd ps sp) (hgd : X.A.guards = some []) (hr : Room k X.A) (hg : Gl X x) (hm : X.mg x = some (.ref f)) (hk : PySem.W.keepIn X.K (.ref f) = true) (hb : Binds X.K fd ps ds) (hd : Vals dvs ds) (hx : Passes CX X E)
    (ha : PA X (e :: es) t) (hdb : (x == ("__debug__" : Str)) = false := by decide) (he : starEach (e :: es) X.env = (false, eval e X.env) :: starEach es X.env := by rfl) (hpl : (backTo pos (starEach es X.env)).any (·.1) = false := by rfl) :
    PE X (.Call (.Name x p) (e :: es) [] pos) (tCall sp dvs E t) := by
  refine ⟨fun pins s σ H Q I h => ?_⟩
  refine wpAny_Call_Name_kw (ld_glob I hg hm ?_ hdb)
  refine PySem.W.callWith_K (h₀ := X.base) I.ok.mod.kin hk (thn (ha.run pos pins s σ H _ I h) fun us s1 ⟨vs, H1, I1, r, q⟩ => ⟨I1.kIn, ?_⟩) he hpl
  exact run_fnG F hgd hr hb hd hx I1 r q
end
/-! ### data with dicts -/
def keyD : Key → PyData
  | .inl i => .int i
  | .inr x => .str x
mutual
inductive DpD (K : PySem.W.Frag) (H : Hp) : V → PyData → Prop
  | non : DpD K H .non .none
  | bl (b : Bool) : DpD K H (.bl b) (.bool b)
  | int (i : Int) : DpD K H (.int i) (.int i)
  | str (x : Str) : DpD K H (.str x) (.str x)
  | lst {a : Addr} {xs : List V} {ds : List PyData} : SqL K H a xs → DpDAll K H xs ds → DpD K H (.ref a) (.list ds)
  | tup {a : Addr} {xs : List V} {ds : List PyData} : SqT K H a xs → DpDAll K H xs ds → DpD K H (.ref a) (.tuple ds)
  | dct {a : Addr} {kvs : List (Key × V)} {ds : List (PyData × PyData)} : Rd H a (.dK kvs) → ds.map (·.1) = kvs.map (fun kv => keyD kv.1) → DpDAll K H (kvs.map (·.2)) (ds.map (·.2)) → DpD K H (.ref a) (.dict ds)
inductive DpDAll (K : PySem.W.Frag) (H : Hp) : List V → List PyData → Prop
  | nil : DpDAll K H [] []
  | cons {v : V} {vs : List V} {d : PyData} {ds : List PyData} : DpD K H v d → DpDAll K H vs ds → DpDAll K H (v :: vs) (d :: ds)
end
section
variable {X : Cx} {pins : List (Addr × Obj)} {σ : St} {H : Hp} {s : Shared}
theorem keys_reads {h : Heap} {P : Program} {w : World} : ∀ {kvs : List (Key × V)} {vs : List (Key × Value)} {es : List DictEntry}, KV kvs vs → Pairs (mixKind P w) es vs →
    ReadsAll h (es.map (·.key)) (kvs.map fun kv => keyD kv.1) [] ∧ Vals (kvs.map (·.2)) (es.map (·.val))
  | _, _, _, .nil, .nil => ⟨.nil, .nil⟩
  | _, _, _, .cons (a := p) (b := q) ⟨e1, r⟩ t, .cons (e := e) h1 h2 t2 => by
    obtain ⟨i1, i2⟩ := keys_reads (h := h) (P := P) (w := w) t t2
    refine ⟨?_, .cons (by show RelV p.2 e.val; rw [h2]; exact r) i2⟩
    have h1' : keyIs q.1 e.key = true := h1
    have hr : Reads h e.key (keyD p.1) [] := by
      rw [e1]
      rcases keyIs_shape h1' with ⟨i, tk, e2, e3⟩ | ⟨x, tk, e2, e3⟩
      · rw [e2, e3]
        exact .int i tk
      · rw [e2, e3]
        exact .str x tk
    exact .cons (as := []) (bs := []) hr i1
/-- what stands at sys.modules' place is no list -/
def NoSys (K : PySem.W.Frag) : Prop := (K.lookup sysModules).map (·.cls) = some (.type "dict")
theorem NoSys.ne {K : PySem.W.Frag} {h : Heap} {a : Addr} {o : Obj} (n : NoSys K) (X : K.In h) (e : h.get? a = some o) (c : o.cls = .type "list") : a ≠ sysModules := fun z => by
  unfold NoSys at n
  cases q : K.lookup sysModules with
  | none =>
    rw [q] at n
    cases n
  | some u =>
    rw [q] at n
    have n' : u.cls = .type "dict" := Option.some.inj n
    have e2 := X _ _ q
    rw [← z, e] at e2
    cases e2
    rw [c] at n'
    exact absurd n' (by decide)
mutual
theorem DpD.reads (I : Inv X pins σ H s) (ns : NoSys X.K) : ∀ {v : V} {d : PyData} {u : Value}, DpD X.K H v d → RelV v u → ∃ as, Reads s.heap u d as ∧ sysModules ∉ as
  | _, _, _, .non, r => by
    cases r
    exact ⟨_, Reads.none, fun z => nomatch z⟩
  | _, _, _, .bl b, r => by
    cases r
    exact ⟨_, Reads.bool b, fun z => nomatch z⟩
  | _, _, _, .int i, r => by
    obtain ⟨t, rfl⟩ := r
    exact ⟨_, Reads.int i t, fun z => nomatch z⟩
  | _, _, _, .str x, r => by
    obtain ⟨t, rfl⟩ := r
    exact ⟨_, Reads.str x t, fun z => nomatch z⟩
  | _, _, _, .lst hs ha, r => by
    cases r
    obtain ⟨its, rv, ⟨o, n, ho, hc, _, hd⟩, _⟩ := I.list hs
    obtain ⟨as, hr, na⟩ := DpDAll.reads I ns ha rv
    refine ⟨_, Reads.list ho hc hd hr, fun z => ?_⟩
    rcases List.mem_cons.mp z with z | z
    · exact ns.ne I.kIn ho hc z.symm
    · exact na z
  | _, _, _, .tup hs ha, r => by
    cases r
    obtain ⟨its, rv, ⟨o, ho, hc, n, hd⟩, _⟩ := I.tuple hs
    obtain ⟨as, hr, na⟩ := DpDAll.reads I ns ha rv
    exact ⟨_, Reads.tuple ho hc hd hr, na⟩
  | _, _, _, .dct (a := a) hd hk ha, r => by
    cases r
    obtain ⟨_, hsys, vs, rel, o, es, ep, ho, hex, hdat, _, hp, _⟩ := dk_rd I.hok hd
    obtain ⟨h1, h2⟩ := keys_reads (h := s.heap) rel hp
    obtain ⟨as, hr, na⟩ := DpDAll.reads I ns ha h2
    rw [← hk] at h1
    refine ⟨_, Reads.dict ho hex.1 hdat h1 hr, fun z => ?_⟩
    rcases List.mem_append.mp z with z | z
    · rcases List.mem_cons.mp z with z | z
      · rw [← z] at hsys
        exact absurd hsys (by decide)
      · exact nomatch z
    · exact na z
theorem DpDAll.reads (I : Inv X pins σ H s) (ns : NoSys X.K) : ∀ {vs : List V} {ds : List PyData} {us : List Value}, DpDAll X.K H vs ds → Vals vs us → ∃ as, ReadsAll s.heap us ds as ∧ sysModules ∉ as
  | _, _, _, .nil, r => by
    cases r
    exact ⟨_, ReadsAll.nil, fun z => nomatch z⟩
  | _, _, _, .cons h1 h2, .cons r1 r2 => by
    obtain ⟨as, q1, n1⟩ := DpD.reads I ns h1 r1
    obtain ⟨bs, q2, n2⟩ := DpDAll.reads I ns h2 r2
    refine ⟨_, ReadsAll.cons q1 q2, fun z => ?_⟩
    rcases List.mem_append.mp z with z | z
    · exact n1 z
    · exact n2 z
end
/-- repr(x), x a list, tuple or dict of data -/
def rRepr (K : PySem.W.Frag) : List V → Hp → VK → Prop := fun xs H Q => ∃ (a : Addr) (d : PyData), xs = [.ref a] ∧ DpD K H (.ref a) d ∧ d.showable = true ∧ d.depth ≤ 60 ∧ d.shown.length ≤ sizeLine ∧ Q (.str d.shown) H
theorem call_reprD {k : Nat} (hg : X.A.guards = some []) (hr : Room k X.A) (ns : NoSys X.K) : CallR X (.builtin "repr") (rRepr X.K) := by
  intro pins s σ H xs us Q I r h
  obtain ⟨a, d, rfl, hd, hs, hdep, hlen, q⟩ := h
  cases r with
  | cons r1 r2 =>
    cases r2
    obtain ⟨as, rd, na⟩ := DpD.reads I ns hd r1
    cases (show _ = Value.ref a from r1)
    refine repr_of_reads' rd hs (fun _ => na) hg (by have := hr.un; omega) (fun b o e => e) (fun h' u tk keep => ?_) hlen
    exact ⟨.str d.shown, H, I.un (t' := tk) (Un.kept keep) (I.hok.kept keep), ⟨u, rfl⟩, q⟩
end
end L2
end
section
set_option Elab.async false
set_option linter.all false
set_option maxRecDepth 100000
set_option maxHeartbeats 4000000
/-! EK8: raise C(e, ..) of such an error; try with several clauses, each with a name -/
namespace L2
open PySem PySem.Spec PyProof.Rows PySem.EK
def tMkE (C : Addr) (fs : List Str) (n : Nat) (g : {α : Type} → List α → List α → List α) (ta : TA) : St → Hp → XK → Prop := fun σ H Q => ta σ H fun vs H1 => vs.length = n ∧ (g vs []).length = fs.length ∧
  ∀ d, H1 d = none → Q (.ref C) (some d) (upd H1 d (.xd (fs.zip (g vs []))))
section
variable {X : Cx} {C fI : Addr} {B newId initId : String} {bmB : List Value} {rs : List Addr} {fs : List Str} {fd : FuncData} {n k : Nat} {g : {α : Type} → List α → List α → List α} {x : Str} {p pos : Pos} {e : Expr} {es : List Expr} {ta : TA}
theorem pmk_err (T : ErrT X.prog X.K C fI B newId initId bmB rs fs fd) (eb : EB fd fs n [] g) (hne : fs ≠ []) (hn : n ≤ 100) (hr : Room k X.A) (hS : X.mg ("super" : Str) = none) (hg : Gl X x) (hm : X.mg x = some (.ref C)) (ha : PA X (e :: es) ta)
    (hdb : (x == ("__debug__" : Str)) = false := by decide) (he : starEach (e :: es) X.env = (false, eval e X.env) :: starEach es X.env := by rfl) (hpl : (backTo pos (starEach es X.env)).any (·.1) = false := by rfl) :
    PMk X (.Call (.Name x p) (e :: es) [] pos) (tMkE C fs n g ta) := by
  intro pins s σ H Q I h
  refine wpAny_Call_Name_kw (ld_glob I hg hm ?_ hdb)
  refine PySem.W.callWith_K (h₀ := X.base) I.ok.mod.kin T.kC (thn (ha.run pos pins s σ H _ I h) fun us s1 ⟨vs, H1, I1, r, h1, h3, q⟩ => ⟨I1.kIn, ?_⟩) he hpl
  obtain ⟨mb, hb1, hb2⟩ := I1.mod.blt
  have rg := eb.rel (zs := []) (ws := []) r .nil
  have hlen : (g us []).length = fs.length := by rw [← rg.length]; exact h3
  refine wpAny_call (err_made T eb (us := us) (ws := []) (R := _) I1.kIn I1.nolimit (I1.mod.glob.keeps I1.bk) hS (hb1.keeps I1.bk) ((hb2 _ (by decide +kernel)).trans (by first | boot_by_name | rfl | kernel_rfl)) (by have := hr.dp; omega) (r.length.symm.trans h1) rfl hlen (by rw [← r.length, h1, sizeLine_eq]; omega) fun h' tk keep ex => ?_)
  obtain ⟨hp, gs, dr, tk0, os⟩ := s1
  have sz1 : hp.objs.size ≤ hp.objs.size + 1 := Nat.le_succ _
  have fr : ∀ a, hp.objs.size ≤ a → H1 a = none := fun a z => I1.hok.fresh z
  cases fs with
  | nil => exact absurd rfl hne
  | cons f t =>
    rcases ex with ⟨z, _⟩ | ⟨_, dx, t1, hn', hde, e', hns⟩
    · simp at z
    · have szd : hp.objs.size ≤ dx := Nat.le_trans (Nat.le_add_right _ 3) hn'
      have hx : H1 (hp.objs.size + 1) = none := fr _ sz1
      have hd1 : H1 dx = none := fr _ szd
      have hd : ObjOk X.prog X.w (upd H1 dx (exd dx ((f :: t).zip (g vs [])))) h' dx (exd dx ((f :: t).zip (g vs []))) := exd_ok hns fun y => by
        rw [done_lookup hlen]
        exact zip_rel rg h3 y
      have I2 := I1.laid (t' := tk) keep szd hd
      let H2 : Hp := upd (upd H1 dx (exd dx ((f :: t).zip (g vs [])))) (hp.objs.size + 1) (exo (hp.objs.size + 1) C (some dx))
      have hx1 : upd H1 dx (exd dx ((f :: t).zip (g vs []))) (hp.objs.size + 1) = none := by
        rw [upd_ne (Ne.symm hde)]
        exact hx
      have up1 : ∀ {b : Addr} {u : HO}, upd H1 (hp.objs.size + 1) (exo (hp.objs.size + 1) C none) b = some u → u ≠ exo (hp.objs.size + 1) C none → H1 b = some u := fun {b u} z nu => by
        by_cases hb : b = hp.objs.size + 1
        · rw [hb, upd_same] at z
          exact absurd (Option.some.inj z).symm nu
        · rw [upd_ne hb] at z
          exact z
      have old : ∀ {b : Addr} {u : HO}, H1 b = some u → H2 b = some u := fun {b u} z => by
        show upd _ _ _ b = _
        rw [upd_ne (ne_of_none z hx), upd_ne (ne_of_none z hd1)]
        exact z
      have U : Un (frs X.stack) [] (upd H1 (hp.objs.size + 1) (exo (hp.objs.size + 1) C none)) H2 hp h' := {
        keep := fun b o q _ _ _ => keep b o q
        slot := fun b o q _ _ _ => ⟨o.slots, keep b o q⟩
        free := fun b o q n _ => by
          have hb : b ≠ hp.objs.size + 1 := Nat.ne_of_lt (Nat.lt_of_lt_of_le (Heap.lt_size q) sz1)
          rw [upd_ne hb] at n
          show upd _ _ _ b = _
          rw [upd_ne hb, upd_ne (Nat.ne_of_lt (Nat.lt_of_lt_of_le (Heap.lt_size q) szd))]
          exact n
        there := fun b o q _ => ⟨o, keep b o q⟩
        tups := fun b xs q => old (up1 q fun z => exo_tup z.symm)
        frzs := fun b o v q => old (up1 q fun z => exo_frz z.symm)
        tbls := fun b ps q => ⟨#[], by
          rw [old (up1 q fun z => exo_tbl z.symm)]
          simp⟩ }
      have hok2 : HOk X.prog X.w H2 h' := fun b o q => by
        by_cases hb : b = hp.objs.size + 1
        · subst hb
          have q' : upd (upd H1 dx (exd dx ((f :: t).zip (g vs [])))) (hp.objs.size + 1) (exo (hp.objs.size + 1) C (some dx)) (hp.objs.size + 1) = some o := q
          rw [upd_same] at q'
          cases q'
          exact exo_ok e'
        · have q' : upd (upd H1 dx (exd dx ((f :: t).zip (g vs [])))) (hp.objs.size + 1) (exo (hp.objs.size + 1) C (some dx)) b = some o := q
          rw [upd_ne hb] at q'
          exact (I2.hok b o q').stay (fun c v _ y => y) (fun c y => by show upd _ _ _ _ = _; rw [upd_ne (ne_of_none y hx1)]; exact y) fun c xs y => by show upd _ _ _ _ = _; rw [upd_ne (ne_of_none y hx1)]; exact y
      have ea : H2 (hp.objs.size + 1) = some (exo (hp.objs.size + 1) C (some dx)) := upd_same
      have ed : H2 dx = some (exd dx ((f :: t).zip (g vs []))) := by
        show upd _ _ _ dx = _
        rw [upd_ne hde, upd_same]
      have eH : upd (del H2 (hp.objs.size + 1)) dx (.xd ((f :: t).zip (g vs []))) = upd H1 dx (.xd ((f :: t).zip (g vs []))) := by
        funext b
        by_cases hb : b = dx
        · rw [hb, upd_same, upd_same]
        · rw [upd_ne hb, upd_ne hb]
          by_cases hb2 : b = hp.objs.size + 1
          · rw [hb2, del_same, hx]
          · rw [del_ne hb2]
            show upd _ _ _ b = _
            rw [upd_ne hb2, upd_ne hb]
      exact mk_end (g2 := gs) (d2 := dr) (t2 := tk) (raises_own T.exC T.tyC) I1 sz1 (fun b o z => z) U hok2 rfl I1.bare ea ed hd1 (by rw [eH]; exact q dx hd1)
end
/-! ### several clauses with names -/
/-- a clause: its class, its name's slot, its suite -/
structure Cl where
  c : Value
  i : Nat
  ts : Addr → Value → Option Addr → TS
def wWays (K : PySem.W.Frag) (Wout : WX) (D : Ends) : List Cl → WX
  | [] => Wout
  | q :: r => fun cls d σ H => ∃ b, PySem.W.exmOne K cls q.c = some b ∧ (b = true → ∀ a, H a = none → q.ts a cls d { nx := fun σ' H' => D.nx (σ'.set q.i none) H', rt := D.rt, bk := fun σ' H' => D.bk (σ'.set q.i none) H', ct := fun σ' H' => D.ct (σ'.set q.i none) H' } (σ.set q.i (some (.ref a))) H) ∧
    (b = false → wWays K Wout D r cls d σ H)
inductive WaysOk (X : Cx) : List ExceptHandler → List Cl → Prop
  | nil : WaysOk X [] []
  | cons {x n : Str} {q : Cl} {b₀ : Stmt} {suite : List Stmt} {np pos' : Pos} {hds : List ExceptHandler} {l : List Cl} (hc : Names X x q.c) (hi : X.N[q.i]? = some n) (hln : X.env.kindOf n = some .local)
      (hsu : ∀ (a : Addr) (oe : Obj) (cls : Value) (d : Option Addr) (pn : List (Addr × Obj)), Zc cls d oe → (∃ vs, oe.data = .fields vs) → PSs (X.suite a ((a, oe) :: pn)) (b₀ :: suite) (q.ts a cls d)) (r : WaysOk X hds l) :
      WaysOk X (.ExceptHandler (some (.Name x np)) (some n) (b₀ :: suite) pos' :: hds) (q :: l)
section
variable {X : Cx} {body : List Stmt} {h₀ : ExceptHandler} {hds : List ExceptHandler} {l : List Cl} {pos : Pos} {tb : WX → TS} {Wout : WX}
theorem ps_try_ways (hs : X.stack = X.env :: X.outer) (hf : X.env.frame = some X.env.locals) (hN : X.N.Nodup) (tk : Takes X Wout)
    (hb : ∀ (W : WX) (pn : List (Addr × Obj)) (xe : Value → Shared → Prop), Takes (X.tr pn xe) W → PassesOwn (model X.prog X.w) X.A X.env xe → PSs (X.tr pn xe) body (tb W))
    (hh : WaysOk X (h₀ :: hds) l) : PS X (.Try body (h₀ :: hds) [] [] pos) (fun D σ H => tb (wWays X.K Wout D l) D σ H) := by
  refine ⟨fun pins s σ H D I h => ?_⟩
  have ok := I.ok
  have hfr : X.A.frames = some (X.env :: X.outer) := by rw [ok.frames, hs]
  refine wpAny_Try_except ?_
  refine wpAny_mono ((hb (wWays X.K Wout D l) (X.pn ++ pins) (fun e s₁ => wpAny (model X.prog X.w) X.A (noteFrame e X.env) (fun _ s₂ => wpAny (model X.prog X.w) X.A (setFlight e none) (fun _ s₃ =>
    wpAny (model X.prog X.w) X.A (handleBy e X.env (h₀ :: hds)) (SP X pins D) X.xe s₃) X.xe s₂) X.xe s₁) (fun u s' xx => ?_) PassesOwn.looking).run [] s σ H D (I.toTry _) h) (fun f s1 hsp => ?_) (fun e s1 he => he)
  · obtain ⟨a, B, sI, pins', σ', H', cls, d, rfl, J', nb, up, sky, na, os, ag, w⟩ := xx
    have J : Inv X pins σ' H' sI := J'.ofTry ok
    have sky' : Sky B (X.env :: X.outer) a (Zc cls d) X.env.locals s'.heap := by rw [← hs]; exact sky
    show wpAny (model X.prog X.w) X.A (noteFrame (.ref a) X.env) _ _ _
    refine Sky.land Zc.steady hfr hf sky' fun h3 fl3 up3 => ?_
    have J3 : Inv X pins σ' H' { s' with heap := h3 } := J.landed nb fl3.1 (up.trans up3) os ag
    obtain ⟨oe3, vs3, he3, hz3, hd3⟩ := fl3.there
    have notFr : ∀ {h : Heap} {o : Obj} {vs : Array Value}, h.FunFrames B (X.env :: X.outer) → h.get? a = some o → o.data = .fields vs → a ∉ frs (X.env :: X.outer) := fun {h o vs} ff e dd hm => by
      obtain ⟨_, o', e', hnf⟩ := ff.mem hm
      rw [e] at e'; cases e'
      exact hnf _ dd
    have nfr := notFr fl3.2.2.1 he3 hd3
    have nL : a ≠ X.env.locals := fun z => nfr (List.mem_filterMap.mpr ⟨X.env, List.mem_cons_self, by rw [hf, z]⟩)
    have nF : a ∉ X.fs := fun hm => by
      obtain ⟨e, he, q⟩ := List.mem_filterMap.mp hm
      exact nfr (List.mem_filterMap.mpr ⟨e, List.mem_cons_of_mem _ he, q⟩)
    have S3 := J3.suite he3 hd3 na nL nF
    have go : ∀ {hds' : List ExceptHandler} {l' : List Cl}, WaysOk X hds' l' → wWays X.K Wout D l' cls d σ' H' →
        wpAny (model X.prog X.w) X.A (handleBy (.ref a) X.env hds') (SP X pins D) X.xe { s' with heap := h3 } := by
      intro hds' l' hk
      induction hk with
      | nil =>
        intro w
        refine wpAny_handleBy_nil ?_
        obtain ⟨k1, k2, k3, oe, vs, T, oT, ts', he, hz, hd, h1, hr⟩ := id fl3
        unfold PySem.passOn
        refine wpAny_bind (wpAny_field he hd h1 ?_)
        rw [if_neg (show ¬ ((Value.ref T == Value.none) = true) from by simp)]
        have fin : wpAny (model X.prog X.w) X.A (setFlight (.ref a) X.env.frame) (fun _ s4 => wpAny (model X.prog X.w) X.A (throw (.ref a) : Sem Flow) (SP X pins D) X.xe s4) X.xe { s' with heap := h3 } := by
          rw [hf]
          refine HandSPX.setFlight_upZ fl3 fun h4 hh4 up4 => wpAny_throw (tk _ _ ?_)
          exact ⟨a, B, sI, pins, σ', H', cls, d, rfl, J, nb, (up.trans up3).trans up4, .inr (.inr (by rw [hs]; exact hh4)), na, os, ag, w⟩
        first
          | exact wpAny_bind (wpAny_pure (wpAny_bind fin))
          | exact wpAny_bind fin
      | @cons x n q b₀ suite np pos' hds2 l2 hc hi hln hsu r ih =>
        intro w
        obtain ⟨b, hb1, hyes, hno⟩ := w
        have hloc : Loc X.env.scope n := .inl hln
        refine wpAny_handleBy_cons (codeAny_handlers_test ?_) (by intro q; cases q)
        have LT : PySem.W.Looks (model X.prog X.w) h3 (typeOf (.ref a)) cls := fun A Q E s k q => wpAny_typeOf_ref (k _ _ he3) (by rw [hz3.1]; exact q)
        have LM := PySem.W.exm_one (M := model X.prog X.w) (J3.kIn) LT hb1
        have test : ∀ {Q : Value → Shared → Prop} {E : Value → Shared → Prop}, Q q.c { s' with heap := h3 } → wpAny (model X.prog X.w) (X.A.mark (some (.ref a))) (eval (.Name x np) X.env) Q E { s' with heap := h3 } := fun {Q E} q => by
          obtain ⟨hg, hdbg, hm | ⟨hm, hv, hnn⟩⟩ := hc
          · exact ld_glob (X := X.suite a ((a, oe3) :: (X.pn ++ pins))) S3 hg hm q hdbg
          · exact ld_blt (X := X.suite a ((a, oe3) :: (X.pn ++ pins))) S3 hg hm hv q hnn hdbg
        refine test (LM.here ?_)
        cases b with
        | true =>
          refine codeAny_handlers_suite_as ?_
          refine HandSPX.lands_againZ fl3 fun h4 fl4 up4 => ?_
          have J4 : Inv X pins σ' H' { s' with heap := h4 } := J.landed nb fl4.1 ((up.trans up3).trans up4) os ag
          obtain ⟨oe4, vs4, he4, hz4, hd4⟩ := fl4.there
          have S4 := J4.suite he4 hd4 na nL nF
          refine store_ok (X := X.suite a ((a, oe4) :: (X.pn ++ pins))) (v := .ref a) S4 hN hi hloc rfl (fun s5 S5 => ?_) (.inr hln)
          refine wpAny_mono ((hsu a oe4 cls d (X.pn ++ pins) hz4 ⟨_, hd4⟩).run [] s5 _ H' _ S5 (hyes rfl a na)) (fun f s6 hsp => ?_) (fun _ _ z => False.elim z)
          have end_ : ∀ {σ6 : St} {H6 : Hp} {Q : Shared → Prop}, Inv (X.suite a ((a, oe4) :: (X.pn ++ pins))) [] σ6 H6 s6 → (∀ s7, Inv X pins (σ6.set q.i none) H6 s7 → Q s7) →
              wpAny (model X.prog X.w) X.A (do bindName X.env n .none; unbindBehindTheSuite X.env n pos') (fun _ s7 => Q s7) X.xe s6 := fun {σ6 H6 Q} S6 hq => gone_ok (S6.unsuite ok) hN hi hln hq
          cases f with
          | next =>
            obtain ⟨σ6, H6, S6, q6⟩ := hsp
            exact end_ S6 fun s7 J7 => ⟨_, _, J7, q6⟩
          | brk =>
            obtain ⟨σ6, H6, S6, q6⟩ := hsp
            exact end_ S6 fun s7 J7 => ⟨_, _, J7, q6⟩
          | cont =>
            obtain ⟨σ6, H6, S6, q6⟩ := hsp
            exact end_ S6 fun s7 J7 => ⟨_, _, J7, q6⟩
          | ret u =>
            obtain ⟨v6, σ6, H6, S6, r6, q6⟩ := hsp
            exact end_ S6 fun s7 J7 => ⟨_, _, _, J7, r6, q6⟩
        | false =>
          show wpAny _ X.A (handleBy (.ref a) X.env hds2) _ _ _
          exact ih (hno rfl)
    exact go hh w
  · cases f with
    | next =>
      obtain ⟨σ', H', J', q⟩ := hsp
      exact wpAny_execs_nil ⟨σ', H', J'.ofTry ok, q⟩
    | brk =>
      obtain ⟨σ', H', J', q⟩ := hsp
      exact ⟨σ', H', J'.ofTry ok, q⟩
    | cont =>
      obtain ⟨σ', H', J', q⟩ := hsp
      exact ⟨σ', H', J'.ofTry ok, q⟩
    | ret u =>
      obtain ⟨v, σ', H', J', r, q⟩ := hsp
      exact ⟨v, σ', H', J'.ofTry ok, r, q⟩
end
/-! ### isinstance of the caught error, in the suite -/
def rIsS (K : PySem.W.Frag) (cls : Value) (d : Option Addr) (a : Addr) : List V → Hp → VK → Prop := fun xs H Q => ∃ (D dd : Addr) (c : V) (cv : Value) (b : Bool) (fs : List (Str × V)), xs = [.ref a, c] ∧ cls = .ref D ∧ d = some dd ∧ ExcC K D ∧ H dd = some (.xd fs) ∧ ClsV c cv ∧ PySem.W.kitOne K (.ref D) cv = some b ∧ Q (.bl b) H
theorem call_isS {X : Cx} {a : Addr} {oe : Obj} {cls : Value} {d : Option Addr} {pn : List (Addr × Obj)} (hz : Zc cls d oe) (hf : ∃ vs, oe.data = .fields vs) : CallR (X.suite a ((a, oe) :: pn)) (.builtin "isinstance") (rIsS X.K cls d a) := by
  intro pins s σ H xs us Q I r h
  obtain ⟨D, dd, c, cv, b, fs, rfl, rfl, rfl, E, hx, k, e, q⟩ := h
  obtain ⟨u1, u2, rfl, r1, r2⟩ := vals2 r
  have e2 := k.eq r2
  subst e2
  cases (show u1 = Value.ref a from r1)
  obtain ⟨ha, _⟩ := I.pin (a, oe) (List.mem_append_left _ List.mem_cons_self)
  obtain ⟨vs, hd⟩ := hf
  have hx' : ObjOk X.prog X.w H s.heap dd (.xd fs) := I.hok dd _ hx
  obtain ⟨mA, hns, hr⟩ := hx'
  obtain ⟨od, ho, hl⟩ := lookIn_ns hns
  have J : PySem.W.InstAt s.heap a oe D (some od) := ⟨ha, hz.1, by unfold PySem.W.notCls; rw [hd] <;> rfl, by rw [hz.2]; exact ho⟩
  exact PySem.W.kia_one (kitx_errAt E) I.kIn J e (fun z => nomatch z) fun tk => ⟨.bl b, H, I.tok tk, rfl, q⟩
end L2
end
section
set_option Elab.async false
set_option linter.all false
set_option maxRecDepth 100000
set_option maxHeartbeats 4000000
/-! EK9: sorted texts: one list alone -/
namespace L2
open PySem PySem.Spec PyProof.Rows
section
theorem lt_irr : ∀ a : List Nat, ltCps a a = false
  | [] => rfl
  | x :: r => by
    show (decide (x < x) || (x == x && ltCps r r)) = false
    rw [lt_irr r]
    simp
theorem lt_tr : ∀ {a b c : List Nat}, ltCps a b = true → ltCps b c = true → ltCps a c = true
  | [], [], _, h, _ => by cases h
  | [], _ :: _, [], _, h => by cases h
  | [], _ :: _, _ :: _, _, _ => rfl
  | _ :: _, [], _, h, _ => by cases h
  | _ :: _, _ :: _, [], _, h => by cases h
  | x :: r, y :: t, z :: u, h1, h2 => by
    have h1' : (decide (x < y) || (x == y && ltCps r t)) = true := h1
    have h2' : (decide (y < z) || (y == z && ltCps t u)) = true := h2
    show (decide (x < z) || (x == z && ltCps r u)) = true
    simp only [Bool.or_eq_true, Bool.and_eq_true, decide_eq_true_eq, beq_iff_eq] at h1' h2' ⊢
    rcases h1' with h1' | ⟨e1, h1'⟩
    · rcases h2' with h2' | ⟨e2, _⟩
      · exact .inl (Nat.lt_trans h1' h2')
      · exact .inl (e2 ▸ h1')
    · rcases h2' with h2' | ⟨e2, h2'⟩
      · exact .inl (e1 ▸ h2')
      · exact .inr ⟨e1.trans e2, lt_tr h1' h2'⟩
theorem lt_or : ∀ {a b : List Nat}, ltCps a b = false → ltCps b a = false → a = b
  | [], [], _, _ => rfl
  | [], _ :: _, h, _ => by cases h
  | _ :: _, [], _, h => by cases h
  | x :: r, y :: t, h1, h2 => by
    have h1' : (decide (x < y) || (x == y && ltCps r t)) = false := h1
    have h2' : (decide (y < x) || (y == x && ltCps t r)) = false := h2
    simp only [Bool.or_eq_false_iff, decide_eq_false_iff_not] at h1' h2'
    have e : x = y := by omega
    subst e
    have q1 : ltCps r t = false := by simpa using h1'.2
    have q2 : ltCps t r = false := by simpa using h2'.2
    rw [lt_or q1 q2]
/-- a stands ahead of b or is it -/
def leS (a b : Str) : Bool := !ltCps b.cps.toList a.cps.toList
theorem str_ext {a b : Str} (h : a.cps.toList = b.cps.toList) : a = b := by
  obtain ⟨⟨l⟩⟩ := a
  obtain ⟨⟨m⟩⟩ := b
  have h' : l = m := h
  rw [h']
theorem leS_anti {a b : Str} (h1 : leS a b = true) (h2 : leS b a = true) : a = b := by
  unfold leS at h1 h2
  simp only [Bool.not_eq_true'] at h1 h2
  exact str_ext (lt_or h2 h1)
theorem leS_tot (a b : Str) : (leS a b || leS b a) = true := by
  unfold leS
  cases h1 : ltCps b.cps.toList a.cps.toList with
  | false => rfl
  | true =>
    cases h2 : ltCps a.cps.toList b.cps.toList with
    | false => rfl
    | true =>
      have z := lt_tr h1 h2
      rw [lt_irr] at z
      cases z
theorem leS_tr {a b c : Str} (h1 : leS a b = true) (h2 : leS b c = true) : leS a c = true := by
  unfold leS at h1 h2 ⊢
  simp only [Bool.not_eq_true'] at h1 h2 ⊢
  cases h3 : ltCps c.cps.toList a.cps.toList with
  | false => rfl
  | true =>
    cases h4 : ltCps a.cps.toList b.cps.toList with
    | true =>
      rw [lt_tr h3 h4] at h2
      cases h2
    | false =>
      have e := lt_or h4 h1
      rw [e] at h3
      rw [h3] at h2
      cases h2
theorem pw_of_rising : ∀ (p : Str) (l : List Str), risingS p l = true → (p :: l).Pairwise (fun a b => leS a b = true)
  | p, [], _ => List.pairwise_singleton _ _
  | p, x :: r, h => by
    have h' : (!ltCps x.cps.toList p.cps.toList && risingS x r) = true := h
    obtain ⟨h1, h2⟩ := Bool.and_eq_true_iff.mp h'
    have ih := pw_of_rising x r h2
    refine List.pairwise_cons.mpr ⟨fun y hy => ?_, ih⟩
    rcases List.mem_cons.mp hy with rfl | hy
    · exact h1
    · exact leS_tr h1 ((List.pairwise_cons.mp ih).1 y hy)
theorem pw_of_sortedS {l : List Str} (h : sortedS l = true) : l.Pairwise (fun a b => leS a b = true) := by
  cases l with
  | nil => exact .nil
  | cons x r => exact pw_of_rising x r h
/-- the texts in their sequence -/
def srt (l : List Str) : List Str := l.mergeSort leS
theorem srt_perm (l : List Str) : (srt l).Perm l := List.mergeSort_perm l leS
theorem srt_pw (l : List Str) : (srt l).Pairwise (fun a b => leS a b = true) := List.pairwise_mergeSort (le := leS) (fun a b c h1 h2 => leS_tr h1 h2) leS_tot l
theorem perm_pw_eq : ∀ {xs ys : List Str}, xs.Perm ys → xs.Pairwise (fun a b => leS a b = true) → ys.Pairwise (fun a b => leS a b = true) → xs = ys := fun p h1 h2 => p.eq_of_pairwise (fun a b _ _ x y => leS_anti x y) h1 h2
theorem srt_of {xs ys : List Str} (p : ys.Perm xs) (h : sortedS ys = true) : ys = srt xs := perm_pw_eq (p.trans (srt_perm xs).symm) (pw_of_sortedS h) (srt_pw xs)
theorem srt_congr {xs ys : List Str} (p : xs.Perm ys) : srt xs = srt ys := perm_pw_eq ((srt_perm xs).trans (p.trans (srt_perm ys).symm)) (srt_pw xs) (srt_pw ys)
theorem srt_mem {l : List Str} {x : Str} : x ∈ srt l ↔ x ∈ l := (srt_perm l).mem_iff
theorem srt_length (l : List Str) : (srt l).length = l.length := (srt_perm l).length_eq
theorem srt_nodup {l : List Str} : (srt l).Nodup ↔ l.Nodup := (srt_perm l).nodup_iff
theorem srt_srt (l : List Str) : srt (srt l) = srt l := srt_congr (srt_perm l)
end
section
variable {X : Cx}
/-- sorted(x) of a list of texts -/
def rSrt (K : PySem.W.Frag) : List V → Hp → VK → Prop := fun vs H Q => ∃ (a : Addr) (xs : List Str), vs = [V.ref a] ∧ SqL K H a (xs.map V.str) ∧ xs.length < 64 ∧ ∀ p, H p = none → Q (.ref p) (upd H p (.lst ((srt xs).map V.str)))
theorem cr_srt : CallR X (.builtin "sorted") (rSrt X.K) := by
  intro pins s σ H vs us Q I r h
  obtain ⟨a, xs, e, hs, hl, q⟩ := h
  refine cr_sortedS pins s σ H vs us Q I r ⟨a, xs, e, hs, hl, fun ys p hp ho hn => ?_⟩
  rw [srt_of hp ho]
  exact q p hn
/-- sorted(d) of a dict of texts -/
def rSrtD : List V → Hp → VK → Prop := fun vs H Q => ∃ (a : Addr) (kvs : List (Key × V)) (ks : List Str), vs = [V.ref a] ∧ Rd H a (.dK kvs) ∧ kvs.map (·.1) = ks.map Sum.inr ∧ ks.length < 64 ∧ ∀ p, H p = none → Q (.ref p) (upd H p (.lst ((srt ks).map V.str)))
theorem cr_srtD (hc : X.calm = true) : CallR X (.builtin "sorted") rSrtD := by
  intro pins s σ H vs us Q I r h
  obtain ⟨a, kvs, ks, e, hs, hk, hl, q⟩ := h
  refine call_sortedD hc pins s σ H vs us Q I r ⟨a, kvs, ks, e, hs, hk, hl, fun ys p hp ho hn => ?_⟩
  rw [srt_of hp ho]
  exact q p hn
/-- sorted(t) of a tuple of texts -/
def rSrtT (K : PySem.W.Frag) : List V → Hp → VK → Prop := fun vs H Q => ∃ (a : Addr) (ks : List Str), vs = [V.ref a] ∧ SqT K H a (ks.map V.str) ∧ ks.length < 64 ∧ ∀ p, H p = none → Q (.ref p) (upd H p (.lst ((srt ks).map V.str)))
theorem cr_srtT : CallR X (.builtin "sorted") (rSrtT X.K) := by
  intro pins s σ H xs us Q I r q
  obtain ⟨a, ks, ex, hd, h64, q⟩ := q
  subst ex
  obtain ⟨u, eu, rx⟩ := vals1 r
  subst eu
  cases rx
  obtain ⟨its, rv, ⟨o, ho, hc, n, hdt⟩, hz⟩ := I.tuple hd
  have hS : StrsAre its ks := rv.strs
  have hal : its.length = ks.length := by
    have e := rv.length
    rw [List.length_map] at e
    exact e.symm
  refine Calls.call_function_entry PyProof.Rows.kind_sorted PyProof.Rows.plain_sorted PyProof.Rows.entry_sorted (PyProof.Rows.args_sorted1 _) ?_
  unfold Builtin.«sorted»
  refine wpAny_bind (m := checkCount "sorted" 1 1 _) (wpAny_pure ?_)
  refine wpAny_bind (wpAny_collect_seq a (.inr rfl) ho hc hdt (fun h' hk => ?_) (by rw [List.size_toArray, hal, sizeLine_eq]; omega))
  rw [List.toList_toArray]
  have I1 : Inv X pins σ H { s with heap := h' } := I.kept (t' := s.toks) hk
  refine wpAny_bind (wpAny_newList ?_ (by rw [hal, sizeLine_eq]; omega))
  have hoL : (h'.push (seqObj "list" its.toArray 0)).get? h'.objs.size = some (seqObj "list" its.toArray 0) := Heap.get?_push_size _ rfl
  show wpAny _ _ _ _ _ { s with heap := h'.push (seqObj "list" its.toArray 0) }
  refine wpAny_bind (wpAny_holding (wpAny_call_entry PyProof.Rows.slot_list_sort ⟨_, hoL, rfl⟩ PyProof.Rows.entry_list_sort
    (list_sort_treeK strKind_oneLt (s := { s with heap := h'.push (seqObj "list" its.toArray 0) }) hoL hS.keysOf (fun v₁ v₂ rest e => keyKind_strs (by rw [← e]; exact hS)) (by rw [hal]; exact h64) fun st' hp hs => ⟨_, rfl, ?_⟩)
    (PyProof.Rows.args_list_sort _)))
  obtain ⟨ys, g1, g2, g3⟩ := sorted_out_str hS hp hs
  obtain ⟨e', he'⟩ := PyProof.Rows.sortedHeap_at (vs := its) (out := (arrOf st').map (·.2)) hoL
  have hlen : (ys.map V.str).length ≤ sizeLine := by
    rw [List.length_map, g2.length_eq]
    exact Nat.le_trans (Nat.le_of_lt h64) (by decide)
  refine wpAny_pure ⟨_, rfl, .ref h'.objs.size, upd H h'.objs.size (.lst (ys.map V.str)), I1.laid (t' := s.toks) (fun b u e => ?_) (Nat.le_refl _)
    (show ObjOk X.prog X.w _ _ _ (.lst (ys.map V.str)) from ⟨hlen, ((arrOf st').map (·.2)).toList, e', vals_of_strs g1, by rw [Array.toArray_toList]; exact he'⟩), rfl, by rw [srt_of g2 g3]; exact q _ (I1.hok.fresh (Nat.le_refl _))⟩
  have hb : b < h'.objs.size := Heap.lt_size e
  rw [PyProof.Rows.sortedHeap_old (Nat.ne_of_lt hb) (by rw [size_push']; exact Nat.lt_succ_of_lt hb)]
  exact Heap.get?_push_of_some _ e
/-- sorted(x) of a list or a tuple of texts -/
theorem cr_srtS : CallR X (.builtin "sorted") (fun vs H Q => rSrt X.K vs H Q ∨ rSrtT X.K vs H Q) := by
  intro pins s σ H vs us Q I r h
  rcases h with h | h
  · exact cr_srt pins s σ H vs us Q I r h
  · exact cr_srtT pins s σ H vs us Q I r h
end
end L2
end
section
set_option Elab.async false
set_option linter.all false
set_option maxRecDepth 100000
set_option maxHeartbeats 4000000
/-! EKM1: a dict with keys of several kinds: find, get, set -/
namespace PySem
namespace EK
open Sem (wp)
section
variable {prog : Program} {w : World} {A : Around} {E : Value → Shared → Prop} {s : Shared}
/-- a key that is looked for among entries: which one it is -/
structure RawQ (prog : Program) (w : World) (A : Around) (s : Shared) (es : Array DictEntry) (key : Value) (h : Int) (hit : Nat → Bool) : Prop where
  eq : ∀ j (hj : j < es.size), es[j].hash = h → ∀ (Q : Bool → Shared → Prop) (E : Value → Shared → Prop), Q (hit j) s → wpAny (model prog w) A (eqBool es[j].key key) Q E s
  same : ∀ j (hj : j < es.size), hit j = true → es[j].hash = h
  one : ∀ i j, i < es.size → j < es.size → hit i = true → hit j = true → i = j
  quiet : ∀ (Q : Bool → Shared → Prop) (E : Value → Shared → Prop), Q true s → wpAny (model prog w) A (eqIsQuiet 8 key) Q E s
  quiets : ∀ j (hj : j < es.size), es[j].hash = h → ∀ (Q : Bool → Shared → Prop) (E : Value → Shared → Prop), Q true s → wpAny (model prog w) A (eqIsQuiet 8 es[j].key) Q E s
  kind : key = .none ∨ (∃ b, key = .bool b) ∨ (∃ i t, key = .int i t) ∨ (∃ x t, key = .str x t) ∨ ∃ a, key = .ref a
  refs : ∀ a, key = .ref a → ∀ j (hj : j < es.size), es[j].key = key → es[j].hash = h
  texts : ∀ x t, key = .str x t → ∀ j (hj : j < es.size), isExactStrKey es[j].key = true → es[j].key.isStr x = hit j
variable {es : Array DictEntry} {key : Value} {h : Int} {hit : Nat → Bool}
theorem stored_at {v : Value} (hv : v ∈ (placesWithHash es.size (fun i => es[i]?.map (·.hash)) h).filterMap (fun i => es[i]?.map (·.key))) : ∃ j, ∃ hj : j < es.size, es[j].hash = h ∧ v = es[j].key := by
  obtain ⟨i, hi0, hi⟩ := List.mem_filterMap.mp hv
  cases hei : es[i]? with
  | none => rw [hei] at hi; cases hi
  | some e =>
    rw [hei] at hi
    obtain rfl : e.key = v := by simpa using hi
    obtain ⟨hlt, rfl⟩ := Array.getElem?_eq_some_iff.mp hei
    refine ⟨i, hlt, ?_, rfl⟩
    unfold placesWithHash at hi0
    have z : ((es[i]?.map (·.hash)) == some h) = true := (List.mem_filter.mp hi0).2
    rw [hei] at z
    simpa using z
theorem raw_tell (R : RawQ prog w A s es key h hit) {Q : Bool → Shared → Prop} {stored : List Value} (hst : ∀ v ∈ stored, ∃ j, ∃ hj : j < es.size, es[j].hash = h ∧ v = es[j].key) (hq : Q false s) : wpAny (model prog w) A (tableMayTell key stored) Q E s := by
  unfold tableMayTell
  split
  · exact wpAny_pure hq
  · refine wpAny_bind (R.quiet _ _ ?_)
    simp only [Bool.not_true, Bool.false_eq_true, if_false]
    refine wpAny_bind ?_
    refine wpAny_forIn_list _ (fun rest r s' => s' = s ∧ r = (none, ()) ∧ ∀ v ∈ rest, ∃ j, ∃ hj : j < es.size, es[j].hash = h ∧ v = es[j].key) _ ?_ ?_ _ _ ⟨rfl, rfl, hst⟩
    · rintro x rest r s' ⟨rfl, rfl, hr⟩
      obtain ⟨j, hj, hh, rfl⟩ := hr x List.mem_cons_self
      refine wpAny_bind (R.quiets j hj hh _ _ ?_)
      simp only [Bool.not_true, Bool.false_eq_true, if_false]
      exact wpAny_pure ⟨rfl, rfl, fun v hv => hr v (List.mem_cons_of_mem _ hv)⟩
    · rintro r s' ⟨rfl, rfl, _⟩
      exact wpAny_pure hq
theorem raw_plain (R : RawQ prog w A s es key h hit) {d : Addr} {o : Obj} {ep : Nat} {Q : Option Nat → Shared → Prop} (ho : s.heap.get? d = some o) (hd : o.data = .dict es ep)
    (hnone : (∀ j, j < es.size → hit j = false) → Q none s) (hsome : ∀ j, j < es.size → hit j = true → Q (some j) s) :
    wpAny (model prog w) A (dictWalkPlain d key h es (placesWithHash es.size (fun i => es[i]?.map (·.hash)) h)) Q E s := by
  have nohit : ∀ j (hj : j < es.size), ((es[j]?.map (·.hash)) == some h) = false → hit j = false := fun j hj hp => by
    cases e : hit j with
    | false => rfl
    | true =>
      rw [Array.getElem?_eq_getElem hj, Option.map_some, R.same j hj e] at hp
      simp at hp
  unfold dictWalkPlain
  refine wpAny_bind ?_
  refine wpAny_forIn_list _
    (fun rest b s' => s' = s ∧ b = (none, ()) ∧ ∃ i, rest = (List.range' i (es.size - i)).filter (fun i => (es[i]?.map (·.hash)) == some h) ∧ i ≤ es.size ∧ ∀ j, j < es.size → j < i → hit j = false) _ ?_ ?_ _ _
    ⟨rfl, rfl, 0, by rw [placesWithHash, List.range_eq_range', Nat.sub_zero], Nat.zero_le _, fun _ _ h => absurd h (Nat.not_lt_zero _)⟩
  · rintro x rest b s' ⟨rfl, rfl, i, hr, hi, hno⟩
    obtain ⟨hix, hxn, hpx, hskip, hrest⟩ := filter_range'_cons _ _ _ _ _ hr.symm
    have hlt : x < es.size := by omega
    have hnext : hit x = false → ∃ i, rest = (List.range' i (es.size - i)).filter (fun i => (es[i]?.map (·.hash)) == some h) ∧ i ≤ es.size ∧ ∀ j, j < es.size → j < i → hit j = false := fun hne =>
      ⟨x + 1, by rw [hrest]; congr 2; omega, hlt, fun j hj hji => by
        rcases Nat.lt_or_ge j i with h1 | h1
        · exact hno j hj h1
        · rcases Nat.lt_or_ge j x with h' | h'
          · exact nohit j hj (hskip j h1 h')
          · have : j = x := by omega
            subst this; exact hne⟩
    simp only [Array.getElem?_eq_getElem hlt]
    by_cases hh : (es[x].hash == h) = true
    · rw [if_pos hh]
      have hh' : es[x].hash = h := by simpa using hh
      refine wpAny_bind (wpAny_dictEpoch ho hd (wpAny_bind (R.eq x hlt hh' _ _ (wpAny_bind (wpAny_dictEpoch ho hd ?_)))))
      show wpAny _ _ (if (ep != ep) = true then _ else _) _ E _
      rw [if_neg (by simp)]
      cases hx : hit x with
      | true => exact wpAny_bind (wpAny_rule (wpAny_pure (wpAny_pure (hsome x hlt hx))))
      | false => exact wpAny_bind (wpAny_rule (wpAny_pure ⟨rfl, rfl, hnext hx⟩))
    · rw [if_neg hh]
      refine wpAny_pure ⟨rfl, rfl, hnext ?_⟩
      cases hx : hit x with
      | false => rfl
      | true =>
        rw [R.same x hlt hx] at hh
        simp at hh
  · rintro b s' ⟨rfl, rfl, i, hr, hi, hno⟩
    have hall : ∀ j, i ≤ j → j < es.size → ((es[j]?.map (·.hash)) == some h) = false := by
      intro j h1 h2
      have := List.filter_eq_nil_iff.mp hr.symm j (List.mem_range'_1.mpr ⟨h1, by omega⟩)
      simpa using this
    refine wpAny_pure (hnone fun j hj => ?_)
    rcases Nat.lt_or_ge j i with h1 | h1
    · exact hno j hj h1
    · exact nohit j hj (hall j h1 hj)
theorem rawFind (R : RawQ prog w A s es key h hit) {d : Addr} {o : Obj} {ep : Nat} {Q : Option Nat → Shared → Prop} (ho : s.heap.get? d = some o) (hd : o.data = .dict es ep)
    (hnone : (∀ j, j < es.size → hit j = false) → Q none s) (hsome : ∀ j, j < es.size → hit j = true → Q (some j) s) : wpAny (model prog w) A (dictFind d key h) Q E s := by
  have nohit : ∀ j (hj : j < es.size), ((es[j]?.map (·.hash)) == some h) = false → hit j = false := fun j hj hp => by
    cases e : hit j with
    | false => rfl
    | true =>
      rw [Array.getElem?_eq_getElem hj, Option.map_some, R.same j hj e] at hp
      simp at hp
  have hany : ∀ a, key = .ref a → ¬ (es.any fun e => e.key == key && e.hash != h) = true := fun a ek => by
    rw [← Array.any_toList, List.any_eq_true]
    rintro ⟨e, hin, hc⟩
    obtain ⟨j, hj, rfl⟩ := Array.mem_iff_getElem.mp (Array.mem_toList_iff.mp hin)
    simp only [Bool.and_eq_true, beq_iff_eq, bne_iff_ne, ne_eq] at hc
    exact hc.2 (R.refs a ek j hj hc.1)
  have byStr : ∀ x t, key = .str x t → (es.all fun e => isExactStrKey e.key) = true → wpAny (model prog w) A (foundByValue d key es x) Q E s := fun x t ek hs => by
    have hst : ∀ j (hj : j < es.size), es[j].key.isStr x = hit j := fun j hj => by
      refine R.texts x t ek j hj ?_
      rw [← Array.all_toList, List.all_eq_true] at hs
      exact hs _ (Array.mem_toList_iff.mpr (Array.getElem_mem hj))
    unfold foundByValue
    cases hf : es.findIdx? (fun e => e.key.isStr x) with
    | none =>
      refine wpAny_pure (hnone fun j hj => ?_)
      have z := Array.findIdx?_eq_none_iff.mp hf es[j] (Array.getElem_mem hj)
      rw [← hst j hj]
      exact z
    | some i =>
      obtain ⟨hlt, hi, _⟩ := Array.findIdx?_eq_some_iff_getElem.mp hf
      have hit_i : hit i = true := by rw [← hst i hlt]; exact hi
      simp only [Array.getElem?_eq_getElem hlt]
      refine wpAny_bind (wpAny_dictEpoch ho hd (wpAny_bind (R.eq i hlt (R.same i hlt hit_i) _ _ (wpAny_bind (wpAny_dictEpoch ho hd ?_)))))
      show wpAny _ _ (if (ep != ep) = true then _ else _) _ E _
      rw [if_neg (by simp), hit_i]
      exact wpAny_bind (wpAny_rule (wpAny_pure (hsome i hlt hit_i)))
  unfold dictFind
  try with_reducible refine wpAny_holding ?_
  refine wpAny_bind (wpAny_dictEntries ho hd ?_)
  dsimp only
  by_cases hall : ((key :: (placesWithHash es.size (fun i => es[i]?.map (·.hash)) h).filterMap fun i => es[i]?.map (·.key)).all carriedByValue) = true
  · rw [if_pos hall]
    split
    next x t =>
      split
      next hstrs => exact byStr x t rfl hstrs
      next => exact raw_plain R ho hd hnone hsome
    next => exact raw_plain R ho hd hnone hsome
  · rw [if_neg hall]
    have hst : ∀ v ∈ (placesWithHash es.size (fun i => es[i]?.map (·.hash)) h).filterMap (fun i => es[i]?.map (·.key)), ∃ j, ∃ hj : j < es.size, es[j].hash = h ∧ v = es[j].key := fun v hv => stored_at hv
    rcases R.kind with rfl | ⟨b, rfl⟩ | ⟨n, t, rfl⟩ | ⟨x, t, rfl⟩ | ⟨a, rfl⟩
    ·   dsimp only
        by_cases hone : (((placesWithHash es.size (fun i => es[i]?.map (·.hash)) h).filterMap (fun i => es[i]?.map (·.key))) == [Value.none]) = true <;>
        (first | rw [if_pos hone] | rw [if_neg hone]) <;> (first | refine wpAny_bind (wpAny_pure ?_) | refine wpAny_bind (raw_tell R hst ?_)) <;> (
          rw [if_neg (by simp)]
          refine wpAny_bind ?_
          refine wpAny_forIn_list _
            (fun rest b s' => s' = s ∧ ∃ i hh, b = (none, hh) ∧ rest = (List.range' i (es.size - i)).filter (fun i => (es[i]?.map (·.hash)) == some h) ∧ i ≤ es.size ∧
              ((hh = none ∧ ∀ j, j < es.size → j < i → hit j = false) ∨ ∃ j, hh = some j ∧ j < i ∧ j < es.size ∧ hit j = true)) _ ?_ ?_ _ _
            ⟨rfl, 0, none, rfl, by rw [placesWithHash, List.range_eq_range', Nat.sub_zero], Nat.zero_le _, .inl ⟨rfl, fun _ _ h => absurd h (Nat.not_lt_zero _)⟩⟩
          · rintro x rest b s' ⟨rfl, i, hh, rfl, hr, hi, hH⟩
            obtain ⟨hix, hxn, hpx, hskip, hrest⟩ := filter_range'_cons _ _ _ _ _ hr.symm
            have hlt : x < es.size := by omega
            have hrest' : rest = (List.range' (x + 1) (es.size - (x + 1))).filter (fun i => (es[i]?.map (·.hash)) == some h) := by rw [hrest]; congr 2; omega
            have hHx : (hh = none ∧ ∀ j, j < es.size → j < x → hit j = false) ∨ ∃ j, hh = some j ∧ j < x ∧ j < es.size ∧ hit j = true := by
              rcases hH with ⟨h0, hno⟩ | ⟨j, h1, hji, hj⟩
              · refine .inl ⟨h0, fun j hj hjx => ?_⟩
                rcases Nat.lt_or_ge j i with h2 | h2
                · exact hno j hj h2
                · exact nohit j hj (hskip j h2 hjx)
              · exact .inr ⟨j, h1, by omega, hj⟩
            have hstay : hit x = false → ((hh = none ∧ ∀ j, j < es.size → j < x + 1 → hit j = false) ∨ ∃ j, hh = some j ∧ j < x + 1 ∧ j < es.size ∧ hit j = true) := by
              intro hne
              rcases hHx with ⟨h0, hno⟩ | ⟨j, h1, hjx, hj⟩
              · refine .inl ⟨h0, fun j hj hjx => ?_⟩
                rcases Nat.lt_or_ge j x with h2 | h2
                · exact hno j hj h2
                · have : j = x := by omega
                  subst this
                  exact hne
              · exact .inr ⟨j, h1, by omega, hj⟩
            simp only [Array.getElem?_eq_getElem hlt]
            by_cases hq : (es[x].hash == h) = true
            · rw [if_pos hq]
              have hq' : es[x].hash = h := by simpa using hq
              refine wpAny_bind (wpAny_dictEpoch ho hd (wpAny_bind (R.eq x hlt hq' _ _ (wpAny_bind (wpAny_dictEpoch ho hd ?_)))))
              show wpAny _ _ (if (ep != ep) = true then _ else _) _ E _
              rw [if_neg (by simp)]
              cases hx : hit x with
              | true =>
                rcases hHx with ⟨rfl, _⟩ | ⟨j, _, hjx, hj, hj2⟩
                · first | rw [if_pos rfl] | skip
                  simp only [Option.isSome_none, Bool.false_eq_true, if_false]
                  first | refine wpAny_bind (wpAny_pure ?_) | skip
                  refine wpAny_bind (wpAny_rule ?_)
                  split
                  · exact wpAny_pure (wpAny_pure (hsome x hlt hx))
                  · exact wpAny_pure ⟨rfl, x + 1, some x, rfl, hrest', hlt, .inr ⟨x, rfl, Nat.lt_succ_self x, hlt, hx⟩⟩
                · exact absurd (R.one j x hj hlt hj2 hx) (by omega)
              | false =>
                simp only [Bool.false_eq_true, if_false]
                refine wpAny_bind (wpAny_rule ?_)
                first | rw [if_neg (by simp)] | skip
                first
                  | exact wpAny_pure ⟨rfl, x + 1, hh, rfl, hrest', hlt, hstay hx⟩
                  | exact wpAny_bind (wpAny_pure (wpAny_pure ⟨rfl, x + 1, hh, rfl, hrest', hlt, hstay hx⟩))
            · rw [if_neg hq]
              refine wpAny_pure ⟨rfl, x + 1, hh, rfl, hrest', hlt, hstay ?_⟩
              cases hx : hit x with
              | false => rfl
              | true =>
                rw [R.same x hlt hx] at hq
                simp at hq
          · rintro b s' ⟨rfl, i, hh, rfl, hr, hi, hH⟩
            have hall : ∀ j, i ≤ j → j < es.size → ((es[j]?.map (·.hash)) == some h) = false := by
              intro j h1 h2
              have := List.filter_eq_nil_iff.mp hr.symm j (List.mem_range'_1.mpr ⟨h1, by omega⟩)
              simpa using this
            rcases hH with ⟨rfl, hno⟩ | ⟨j, rfl, _, hj, hj2⟩
            · refine wpAny_pure (hnone fun j hj => ?_)
              rcases Nat.lt_or_ge j i with h1 | h1
              · exact hno j hj h1
              · exact nohit j hj (hall j h1 hj)
            · exact wpAny_pure (hsome j hj hj2))
    ·   dsimp only
        by_cases hone : (((placesWithHash es.size (fun i => es[i]?.map (·.hash)) h).filterMap (fun i => es[i]?.map (·.key))) == [Value.bool b]) = true <;>
        (first | rw [if_pos hone] | rw [if_neg hone]) <;> (first | refine wpAny_bind (wpAny_pure ?_) | refine wpAny_bind (raw_tell R hst ?_)) <;> (
          rw [if_neg (by simp)]
          refine wpAny_bind ?_
          refine wpAny_forIn_list _
            (fun rest b s' => s' = s ∧ ∃ i hh, b = (none, hh) ∧ rest = (List.range' i (es.size - i)).filter (fun i => (es[i]?.map (·.hash)) == some h) ∧ i ≤ es.size ∧
              ((hh = none ∧ ∀ j, j < es.size → j < i → hit j = false) ∨ ∃ j, hh = some j ∧ j < i ∧ j < es.size ∧ hit j = true)) _ ?_ ?_ _ _
            ⟨rfl, 0, none, rfl, by rw [placesWithHash, List.range_eq_range', Nat.sub_zero], Nat.zero_le _, .inl ⟨rfl, fun _ _ h => absurd h (Nat.not_lt_zero _)⟩⟩
          · rintro x rest b s' ⟨rfl, i, hh, rfl, hr, hi, hH⟩
            obtain ⟨hix, hxn, hpx, hskip, hrest⟩ := filter_range'_cons _ _ _ _ _ hr.symm
            have hlt : x < es.size := by omega
            have hrest' : rest = (List.range' (x + 1) (es.size - (x + 1))).filter (fun i => (es[i]?.map (·.hash)) == some h) := by rw [hrest]; congr 2; omega
            have hHx : (hh = none ∧ ∀ j, j < es.size → j < x → hit j = false) ∨ ∃ j, hh = some j ∧ j < x ∧ j < es.size ∧ hit j = true := by
              rcases hH with ⟨h0, hno⟩ | ⟨j, h1, hji, hj⟩
              · refine .inl ⟨h0, fun j hj hjx => ?_⟩
                rcases Nat.lt_or_ge j i with h2 | h2
                · exact hno j hj h2
                · exact nohit j hj (hskip j h2 hjx)
              · exact .inr ⟨j, h1, by omega, hj⟩
            have hstay : hit x = false → ((hh = none ∧ ∀ j, j < es.size → j < x + 1 → hit j = false) ∨ ∃ j, hh = some j ∧ j < x + 1 ∧ j < es.size ∧ hit j = true) := by
              intro hne
              rcases hHx with ⟨h0, hno⟩ | ⟨j, h1, hjx, hj⟩
              · refine .inl ⟨h0, fun j hj hjx => ?_⟩
                rcases Nat.lt_or_ge j x with h2 | h2
                · exact hno j hj h2
                · have : j = x := by omega
                  subst this
                  exact hne
              · exact .inr ⟨j, h1, by omega, hj⟩
            simp only [Array.getElem?_eq_getElem hlt]
            by_cases hq : (es[x].hash == h) = true
            · rw [if_pos hq]
              have hq' : es[x].hash = h := by simpa using hq
              refine wpAny_bind (wpAny_dictEpoch ho hd (wpAny_bind (R.eq x hlt hq' _ _ (wpAny_bind (wpAny_dictEpoch ho hd ?_)))))
              show wpAny _ _ (if (ep != ep) = true then _ else _) _ E _
              rw [if_neg (by simp)]
              cases hx : hit x with
              | true =>
                rcases hHx with ⟨rfl, _⟩ | ⟨j, _, hjx, hj, hj2⟩
                · first | rw [if_pos rfl] | skip
                  simp only [Option.isSome_none, Bool.false_eq_true, if_false]
                  first | refine wpAny_bind (wpAny_pure ?_) | skip
                  refine wpAny_bind (wpAny_rule ?_)
                  split
                  · exact wpAny_pure (wpAny_pure (hsome x hlt hx))
                  · exact wpAny_pure ⟨rfl, x + 1, some x, rfl, hrest', hlt, .inr ⟨x, rfl, Nat.lt_succ_self x, hlt, hx⟩⟩
                · exact absurd (R.one j x hj hlt hj2 hx) (by omega)
              | false =>
                simp only [Bool.false_eq_true, if_false]
                refine wpAny_bind (wpAny_rule ?_)
                first | rw [if_neg (by simp)] | skip
                first
                  | exact wpAny_pure ⟨rfl, x + 1, hh, rfl, hrest', hlt, hstay hx⟩
                  | exact wpAny_bind (wpAny_pure (wpAny_pure ⟨rfl, x + 1, hh, rfl, hrest', hlt, hstay hx⟩))
            · rw [if_neg hq]
              refine wpAny_pure ⟨rfl, x + 1, hh, rfl, hrest', hlt, hstay ?_⟩
              cases hx : hit x with
              | false => rfl
              | true =>
                rw [R.same x hlt hx] at hq
                simp at hq
          · rintro b s' ⟨rfl, i, hh, rfl, hr, hi, hH⟩
            have hall : ∀ j, i ≤ j → j < es.size → ((es[j]?.map (·.hash)) == some h) = false := by
              intro j h1 h2
              have := List.filter_eq_nil_iff.mp hr.symm j (List.mem_range'_1.mpr ⟨h1, by omega⟩)
              simpa using this
            rcases hH with ⟨rfl, hno⟩ | ⟨j, rfl, _, hj, hj2⟩
            · refine wpAny_pure (hnone fun j hj => ?_)
              rcases Nat.lt_or_ge j i with h1 | h1
              · exact hno j hj h1
              · exact nohit j hj (hall j h1 hj)
            · exact wpAny_pure (hsome j hj hj2))
    ·   dsimp only
        by_cases hone : (((placesWithHash es.size (fun i => es[i]?.map (·.hash)) h).filterMap (fun i => es[i]?.map (·.key))) == [Value.int n t]) = true <;>
        (first | rw [if_pos hone] | rw [if_neg hone]) <;> (first | refine wpAny_bind (wpAny_pure ?_) | refine wpAny_bind (raw_tell R hst ?_)) <;> (
          rw [if_neg (by simp)]
          refine wpAny_bind ?_
          refine wpAny_forIn_list _
            (fun rest b s' => s' = s ∧ ∃ i hh, b = (none, hh) ∧ rest = (List.range' i (es.size - i)).filter (fun i => (es[i]?.map (·.hash)) == some h) ∧ i ≤ es.size ∧
              ((hh = none ∧ ∀ j, j < es.size → j < i → hit j = false) ∨ ∃ j, hh = some j ∧ j < i ∧ j < es.size ∧ hit j = true)) _ ?_ ?_ _ _
            ⟨rfl, 0, none, rfl, by rw [placesWithHash, List.range_eq_range', Nat.sub_zero], Nat.zero_le _, .inl ⟨rfl, fun _ _ h => absurd h (Nat.not_lt_zero _)⟩⟩
          · rintro x rest b s' ⟨rfl, i, hh, rfl, hr, hi, hH⟩
            obtain ⟨hix, hxn, hpx, hskip, hrest⟩ := filter_range'_cons _ _ _ _ _ hr.symm
            have hlt : x < es.size := by omega
            have hrest' : rest = (List.range' (x + 1) (es.size - (x + 1))).filter (fun i => (es[i]?.map (·.hash)) == some h) := by rw [hrest]; congr 2; omega
            have hHx : (hh = none ∧ ∀ j, j < es.size → j < x → hit j = false) ∨ ∃ j, hh = some j ∧ j < x ∧ j < es.size ∧ hit j = true := by
              rcases hH with ⟨h0, hno⟩ | ⟨j, h1, hji, hj⟩
              · refine .inl ⟨h0, fun j hj hjx => ?_⟩
                rcases Nat.lt_or_ge j i with h2 | h2
                · exact hno j hj h2
                · exact nohit j hj (hskip j h2 hjx)
              · exact .inr ⟨j, h1, by omega, hj⟩
            have hstay : hit x = false → ((hh = none ∧ ∀ j, j < es.size → j < x + 1 → hit j = false) ∨ ∃ j, hh = some j ∧ j < x + 1 ∧ j < es.size ∧ hit j = true) := by
              intro hne
              rcases hHx with ⟨h0, hno⟩ | ⟨j, h1, hjx, hj⟩
              · refine .inl ⟨h0, fun j hj hjx => ?_⟩
                rcases Nat.lt_or_ge j x with h2 | h2
                · exact hno j hj h2
                · have : j = x := by omega
                  subst this
                  exact hne
              · exact .inr ⟨j, h1, by omega, hj⟩
            simp only [Array.getElem?_eq_getElem hlt]
            by_cases hq : (es[x].hash == h) = true
            · rw [if_pos hq]
              have hq' : es[x].hash = h := by simpa using hq
              refine wpAny_bind (wpAny_dictEpoch ho hd (wpAny_bind (R.eq x hlt hq' _ _ (wpAny_bind (wpAny_dictEpoch ho hd ?_)))))
              show wpAny _ _ (if (ep != ep) = true then _ else _) _ E _
              rw [if_neg (by simp)]
              cases hx : hit x with
              | true =>
                rcases hHx with ⟨rfl, _⟩ | ⟨j, _, hjx, hj, hj2⟩
                · first | rw [if_pos rfl] | skip
                  simp only [Option.isSome_none, Bool.false_eq_true, if_false]
                  first | refine wpAny_bind (wpAny_pure ?_) | skip
                  refine wpAny_bind (wpAny_rule ?_)
                  split
                  · exact wpAny_pure (wpAny_pure (hsome x hlt hx))
                  · exact wpAny_pure ⟨rfl, x + 1, some x, rfl, hrest', hlt, .inr ⟨x, rfl, Nat.lt_succ_self x, hlt, hx⟩⟩
                · exact absurd (R.one j x hj hlt hj2 hx) (by omega)
              | false =>
                simp only [Bool.false_eq_true, if_false]
                refine wpAny_bind (wpAny_rule ?_)
                first | rw [if_neg (by simp)] | skip
                first
                  | exact wpAny_pure ⟨rfl, x + 1, hh, rfl, hrest', hlt, hstay hx⟩
                  | exact wpAny_bind (wpAny_pure (wpAny_pure ⟨rfl, x + 1, hh, rfl, hrest', hlt, hstay hx⟩))
            · rw [if_neg hq]
              refine wpAny_pure ⟨rfl, x + 1, hh, rfl, hrest', hlt, hstay ?_⟩
              cases hx : hit x with
              | false => rfl
              | true =>
                rw [R.same x hlt hx] at hq
                simp at hq
          · rintro b s' ⟨rfl, i, hh, rfl, hr, hi, hH⟩
            have hall : ∀ j, i ≤ j → j < es.size → ((es[j]?.map (·.hash)) == some h) = false := by
              intro j h1 h2
              have := List.filter_eq_nil_iff.mp hr.symm j (List.mem_range'_1.mpr ⟨h1, by omega⟩)
              simpa using this
            rcases hH with ⟨rfl, hno⟩ | ⟨j, rfl, _, hj, hj2⟩
            · refine wpAny_pure (hnone fun j hj => ?_)
              rcases Nat.lt_or_ge j i with h1 | h1
              · exact hno j hj h1
              · exact nohit j hj (hall j h1 hj)
            · exact wpAny_pure (hsome j hj hj2))
    · by_cases hstrs : (es.all fun e => isExactStrKey e.key) = true
      · dsimp only
        rw [if_pos hstrs]
        exact byStr x t rfl hstrs
      · dsimp only
        rw [if_neg hstrs]
        by_cases hone : (((placesWithHash es.size (fun i => es[i]?.map (·.hash)) h).filterMap (fun i => es[i]?.map (·.key))) == [Value.str x t]) = true <;>
        (first | rw [if_pos hone] | rw [if_neg hone]) <;> (first | refine wpAny_bind (wpAny_pure ?_) | refine wpAny_bind (raw_tell R hst ?_)) <;> (
          rw [if_neg (by simp)]
          refine wpAny_bind ?_
          refine wpAny_forIn_list _
            (fun rest b s' => s' = s ∧ ∃ i hh, b = (none, hh) ∧ rest = (List.range' i (es.size - i)).filter (fun i => (es[i]?.map (·.hash)) == some h) ∧ i ≤ es.size ∧
              ((hh = none ∧ ∀ j, j < es.size → j < i → hit j = false) ∨ ∃ j, hh = some j ∧ j < i ∧ j < es.size ∧ hit j = true)) _ ?_ ?_ _ _
            ⟨rfl, 0, none, rfl, by rw [placesWithHash, List.range_eq_range', Nat.sub_zero], Nat.zero_le _, .inl ⟨rfl, fun _ _ h => absurd h (Nat.not_lt_zero _)⟩⟩
          · rintro x rest b s' ⟨rfl, i, hh, rfl, hr, hi, hH⟩
            obtain ⟨hix, hxn, hpx, hskip, hrest⟩ := filter_range'_cons _ _ _ _ _ hr.symm
            have hlt : x < es.size := by omega
            have hrest' : rest = (List.range' (x + 1) (es.size - (x + 1))).filter (fun i => (es[i]?.map (·.hash)) == some h) := by rw [hrest]; congr 2; omega
            have hHx : (hh = none ∧ ∀ j, j < es.size → j < x → hit j = false) ∨ ∃ j, hh = some j ∧ j < x ∧ j < es.size ∧ hit j = true := by
              rcases hH with ⟨h0, hno⟩ | ⟨j, h1, hji, hj⟩
              · refine .inl ⟨h0, fun j hj hjx => ?_⟩
                rcases Nat.lt_or_ge j i with h2 | h2
                · exact hno j hj h2
                · exact nohit j hj (hskip j h2 hjx)
              · exact .inr ⟨j, h1, by omega, hj⟩
            have hstay : hit x = false → ((hh = none ∧ ∀ j, j < es.size → j < x + 1 → hit j = false) ∨ ∃ j, hh = some j ∧ j < x + 1 ∧ j < es.size ∧ hit j = true) := by
              intro hne
              rcases hHx with ⟨h0, hno⟩ | ⟨j, h1, hjx, hj⟩
              · refine .inl ⟨h0, fun j hj hjx => ?_⟩
                rcases Nat.lt_or_ge j x with h2 | h2
                · exact hno j hj h2
                · have : j = x := by omega
                  subst this
                  exact hne
              · exact .inr ⟨j, h1, by omega, hj⟩
            simp only [Array.getElem?_eq_getElem hlt]
            by_cases hq : (es[x].hash == h) = true
            · rw [if_pos hq]
              have hq' : es[x].hash = h := by simpa using hq
              refine wpAny_bind (wpAny_dictEpoch ho hd (wpAny_bind (R.eq x hlt hq' _ _ (wpAny_bind (wpAny_dictEpoch ho hd ?_)))))
              show wpAny _ _ (if (ep != ep) = true then _ else _) _ E _
              rw [if_neg (by simp)]
              cases hx : hit x with
              | true =>
                rcases hHx with ⟨rfl, _⟩ | ⟨j, _, hjx, hj, hj2⟩
                · first | rw [if_pos rfl] | skip
                  simp only [Option.isSome_none, Bool.false_eq_true, if_false]
                  first | refine wpAny_bind (wpAny_pure ?_) | skip
                  refine wpAny_bind (wpAny_rule ?_)
                  split
                  · exact wpAny_pure (wpAny_pure (hsome x hlt hx))
                  · exact wpAny_pure ⟨rfl, x + 1, some x, rfl, hrest', hlt, .inr ⟨x, rfl, Nat.lt_succ_self x, hlt, hx⟩⟩
                · exact absurd (R.one j x hj hlt hj2 hx) (by omega)
              | false =>
                simp only [Bool.false_eq_true, if_false]
                refine wpAny_bind (wpAny_rule ?_)
                first | rw [if_neg (by simp)] | skip
                first
                  | exact wpAny_pure ⟨rfl, x + 1, hh, rfl, hrest', hlt, hstay hx⟩
                  | exact wpAny_bind (wpAny_pure (wpAny_pure ⟨rfl, x + 1, hh, rfl, hrest', hlt, hstay hx⟩))
            · rw [if_neg hq]
              refine wpAny_pure ⟨rfl, x + 1, hh, rfl, hrest', hlt, hstay ?_⟩
              cases hx : hit x with
              | false => rfl
              | true =>
                rw [R.same x hlt hx] at hq
                simp at hq
          · rintro b s' ⟨rfl, i, hh, rfl, hr, hi, hH⟩
            have hall : ∀ j, i ≤ j → j < es.size → ((es[j]?.map (·.hash)) == some h) = false := by
              intro j h1 h2
              have := List.filter_eq_nil_iff.mp hr.symm j (List.mem_range'_1.mpr ⟨h1, by omega⟩)
              simpa using this
            rcases hH with ⟨rfl, hno⟩ | ⟨j, rfl, _, hj, hj2⟩
            · refine wpAny_pure (hnone fun j hj => ?_)
              rcases Nat.lt_or_ge j i with h1 | h1
              · exact hno j hj h1
              · exact nohit j hj (hall j h1 hj)
            · exact wpAny_pure (hsome j hj hj2))
    ·   dsimp only
        rw [if_neg (hany a rfl)]
        by_cases hone : (((placesWithHash es.size (fun i => es[i]?.map (·.hash)) h).filterMap (fun i => es[i]?.map (·.key))) == [Value.ref a]) = true <;>
        (first | rw [if_pos hone] | rw [if_neg hone]) <;> (first | refine wpAny_bind (wpAny_pure ?_) | refine wpAny_bind (raw_tell R hst ?_)) <;> (
          rw [if_neg (by simp)]
          refine wpAny_bind ?_
          refine wpAny_forIn_list _
            (fun rest b s' => s' = s ∧ ∃ i hh, b = (none, hh) ∧ rest = (List.range' i (es.size - i)).filter (fun i => (es[i]?.map (·.hash)) == some h) ∧ i ≤ es.size ∧
              ((hh = none ∧ ∀ j, j < es.size → j < i → hit j = false) ∨ ∃ j, hh = some j ∧ j < i ∧ j < es.size ∧ hit j = true)) _ ?_ ?_ _ _
            ⟨rfl, 0, none, rfl, by rw [placesWithHash, List.range_eq_range', Nat.sub_zero], Nat.zero_le _, .inl ⟨rfl, fun _ _ h => absurd h (Nat.not_lt_zero _)⟩⟩
          · rintro x rest b s' ⟨rfl, i, hh, rfl, hr, hi, hH⟩
            obtain ⟨hix, hxn, hpx, hskip, hrest⟩ := filter_range'_cons _ _ _ _ _ hr.symm
            have hlt : x < es.size := by omega
            have hrest' : rest = (List.range' (x + 1) (es.size - (x + 1))).filter (fun i => (es[i]?.map (·.hash)) == some h) := by rw [hrest]; congr 2; omega
            have hHx : (hh = none ∧ ∀ j, j < es.size → j < x → hit j = false) ∨ ∃ j, hh = some j ∧ j < x ∧ j < es.size ∧ hit j = true := by
              rcases hH with ⟨h0, hno⟩ | ⟨j, h1, hji, hj⟩
              · refine .inl ⟨h0, fun j hj hjx => ?_⟩
                rcases Nat.lt_or_ge j i with h2 | h2
                · exact hno j hj h2
                · exact nohit j hj (hskip j h2 hjx)
              · exact .inr ⟨j, h1, by omega, hj⟩
            have hstay : hit x = false → ((hh = none ∧ ∀ j, j < es.size → j < x + 1 → hit j = false) ∨ ∃ j, hh = some j ∧ j < x + 1 ∧ j < es.size ∧ hit j = true) := by
              intro hne
              rcases hHx with ⟨h0, hno⟩ | ⟨j, h1, hjx, hj⟩
              · refine .inl ⟨h0, fun j hj hjx => ?_⟩
                rcases Nat.lt_or_ge j x with h2 | h2
                · exact hno j hj h2
                · have : j = x := by omega
                  subst this
                  exact hne
              · exact .inr ⟨j, h1, by omega, hj⟩
            simp only [Array.getElem?_eq_getElem hlt]
            by_cases hq : (es[x].hash == h) = true
            · rw [if_pos hq]
              have hq' : es[x].hash = h := by simpa using hq
              refine wpAny_bind (wpAny_dictEpoch ho hd (wpAny_bind (R.eq x hlt hq' _ _ (wpAny_bind (wpAny_dictEpoch ho hd ?_)))))
              show wpAny _ _ (if (ep != ep) = true then _ else _) _ E _
              rw [if_neg (by simp)]
              cases hx : hit x with
              | true =>
                rcases hHx with ⟨rfl, _⟩ | ⟨j, _, hjx, hj, hj2⟩
                · first | rw [if_pos rfl] | skip
                  simp only [Option.isSome_none, Bool.false_eq_true, if_false]
                  first | refine wpAny_bind (wpAny_pure ?_) | skip
                  refine wpAny_bind (wpAny_rule ?_)
                  split
                  · exact wpAny_pure (wpAny_pure (hsome x hlt hx))
                  · exact wpAny_pure ⟨rfl, x + 1, some x, rfl, hrest', hlt, .inr ⟨x, rfl, Nat.lt_succ_self x, hlt, hx⟩⟩
                · exact absurd (R.one j x hj hlt hj2 hx) (by omega)
              | false =>
                simp only [Bool.false_eq_true, if_false]
                refine wpAny_bind (wpAny_rule ?_)
                first | rw [if_neg (by simp)] | skip
                first
                  | exact wpAny_pure ⟨rfl, x + 1, hh, rfl, hrest', hlt, hstay hx⟩
                  | exact wpAny_bind (wpAny_pure (wpAny_pure ⟨rfl, x + 1, hh, rfl, hrest', hlt, hstay hx⟩))
            · rw [if_neg hq]
              refine wpAny_pure ⟨rfl, x + 1, hh, rfl, hrest', hlt, hstay ?_⟩
              cases hx : hit x with
              | false => rfl
              | true =>
                rw [R.same x hlt hx] at hq
                simp at hq
          · rintro b s' ⟨rfl, i, hh, rfl, hr, hi, hH⟩
            have hall : ∀ j, i ≤ j → j < es.size → ((es[j]?.map (·.hash)) == some h) = false := by
              intro j h1 h2
              have := List.filter_eq_nil_iff.mp hr.symm j (List.mem_range'_1.mpr ⟨h1, by omega⟩)
              simpa using this
            rcases hH with ⟨rfl, hno⟩ | ⟨j, rfl, _, hj, hj2⟩
            · refine wpAny_pure (hnone fun j hj => ?_)
              rcases Nat.lt_or_ge j i with h1 | h1
              · exact hno j hj h1
              · exact nohit j hj (hall j h1 hj)
            · exact wpAny_pure (hsome j hj hj2))
end
end EK
end PySem
end
section
set_option Elab.async false
set_option linter.all false
set_option maxRecDepth 100000
set_option maxHeartbeats 4000000
/-! EKM2: dicts with keys of several kinds, raw: set, get, dict(pairs) -/
namespace PySem
namespace EK
open Sem (wp)
def TupKeep (h0 h : Heap) : Prop := ∀ b o, h0.get? b = some o → o.cls = .type "tuple" → h.get? b = some o
theorem TupKeep.refl (h : Heap) : TupKeep h h := fun _ _ e _ => e
theorem TupKeep.of {h0 h h' : Heap} (t : TupKeep h0 h) (k : ∀ b o, h.get? b = some o → h'.get? b = some o) : TupKeep h0 h' := fun b o e c => k b o (t b o e c)
theorem TupKeep.but {h0 h h' : Heap} {d : Addr} {o : Obj} (t : TupKeep h0 h) (ho : h.get? d = some o) (hc : o.cls ≠ .type "tuple") (k : Heap.ExtBut d h h') : TupKeep h0 h' := fun b ob e c => by
  have z := t b ob e c
  refine k b ob (fun q => ?_) z
  subst q
  rw [z] at ho
  cases ho
  exact hc c
/-- a sort of keys: their hashes, which are equal -/
structure KeySys (prog : Program) (w : World) (h0 : Heap) (Ks : Value → Prop) (hs : Value → Int) (eqv : Value → Value → Bool) : Prop where
  hash : ∀ {A : Around} {E : Value → Shared → Prop} {s : Shared} {k : Value} {Q : Int → Shared → Prop}, A.units < cLine → Ks k → TupKeep h0 s.heap → (∀ n, Q (hs k) { s with toks := n }) → wpAny (model prog w) A (pyHash k) Q E s
  eq : ∀ {A : Around} {E : Value → Shared → Prop} {s : Shared} {k k' : Value} {Q : Bool → Shared → Prop}, A.units < cLine → Ks k → Ks k' → TupKeep h0 s.heap → Q (eqv k k') s → wpAny (model prog w) A (eqBool k k') Q E s
  quiet : ∀ {A : Around} {E : Value → Shared → Prop} {s : Shared} {k : Value} {Q : Bool → Shared → Prop}, Ks k → TupKeep h0 s.heap → Q true s → wpAny (model prog w) A (eqIsQuiet 8 k) Q E s
  kind : ∀ k, Ks k → k = .none ∨ (∃ b, k = .bool b) ∨ (∃ i t, k = .int i t) ∨ (∃ x t, k = .str x t) ∨ ∃ a, k = .ref a
  hashEq : ∀ k k', Ks k → Ks k' → eqv k k' = true → hs k = hs k'
  refl : ∀ k, Ks k → eqv k k = true
  symm : ∀ k k', Ks k → Ks k' → eqv k k' = true → eqv k' k = true
  trans : ∀ k k' k'', Ks k → Ks k' → Ks k'' → eqv k k' = true → eqv k' k'' = true → eqv k k'' = true
  texts : ∀ k x t, Ks k → Ks (.str x t) → isExactStrKey k = true → k.isStr x = eqv k (.str x t)
section
variable {prog : Program} {w : World} {h0 : Heap} {Ks : Value → Prop} {hs : Value → Int} {eqv : Value → Value → Bool}
def enOf (hs : Value → Int) (p : Value × Value) : DictEntry := ⟨hs p.1, p.1, p.2⟩
/-- at d stands a dict of these entries -/
structure RawD (Ks : Value → Prop) (hs : Value → Int) (eqv : Value → Value → Bool) (h : Heap) (d : Addr) (es : List (Value × Value)) : Prop where
  obj : ∃ o ep, h.get? d = some o ∧ o.ExactDict ∧ o.data = .dict (es.map (enOf hs)).toArray ep
  keys : ∀ p ∈ es, Ks p.1
  one : es.Pairwise fun p q => eqv p.1 q.1 = false
theorem RawD.at {h h' : Heap} {d : Addr} {es : List (Value × Value)} (r : RawD Ks hs eqv h d es) (k : ∀ o, h.get? d = some o → h'.get? d = some o) : RawD Ks hs eqv h' d es := by
  obtain ⟨⟨o, ep, ho, x, hd⟩, a, b⟩ := r
  exact ⟨⟨o, ep, k o ho, x, hd⟩, a, b⟩
theorem RawD.extBut {h h' : Heap} {d b : Addr} {es : List (Value × Value)} (r : RawD Ks hs eqv h d es) (k : Heap.ExtBut b h h') (n : d ≠ b) : RawD Ks hs eqv h' d es := r.at fun o e => k d o n e
theorem RawD.typeIs {s : Shared} {d : Addr} {es : List (Value × Value)} (r : RawD Ks hs eqv s.heap d es) : s.TypeIs (.ref d) "dict" := by
  obtain ⟨⟨o, ep, ho, x, hd⟩, _⟩ := r
  exact ⟨o, ho, x.1⟩
theorem RawD.new (h : Heap) : RawD Ks hs eqv (h.push { cls := .type "dict", data := .dict #[] }) h.objs.size [] :=
  ⟨⟨_, 0, Heap.get?_push_size _ rfl, ⟨rfl, rfl, rfl⟩, rfl⟩, fun p z => (nomatch z), List.Pairwise.nil⟩
theorem rawQ (S : KeySys prog w h0 Ks hs eqv) {A : Around} {s : Shared} {es : List (Value × Value)} {key : Value} (hu : A.units < cLine) (t : TupKeep h0 s.heap) (hk : ∀ p ∈ es, Ks p.1) (h1 : es.Pairwise fun p q => eqv p.1 q.1 = false) (kk : Ks key) :
    RawQ prog w A s (es.map (enOf hs)).toArray key (hs key) (fun j => match es[j]? with | some p => eqv p.1 key | none => false) := by
  have at_ : ∀ j (hj : j < (es.map (enOf hs)).toArray.size), ∃ p, es[j]? = some p ∧ (es.map (enOf hs)).toArray[j] = enOf hs p ∧ Ks p.1 := fun j hj => by
    have hj' : j < es.length := by simpa using hj
    exact ⟨es[j], List.getElem?_eq_getElem hj', by simp, hk _ (List.getElem_mem hj')⟩
  refine ⟨fun j hj _ Q E hq => ?_, fun j hj hh => ?_, fun i j hi hj h2 h3 => ?_, fun Q E hq => S.quiet kk t hq, fun j hj _ Q E hq => ?_, S.kind key kk, fun a ek j hj hh => ?_, fun x t' ek j hj hx => ?_⟩
  · obtain ⟨p, e1, e2, e3⟩ := at_ j hj
    rw [e2]
    refine S.eq hu e3 kk t ?_
    rw [e1] at hq
    exact hq
  · obtain ⟨p, e1, e2, e3⟩ := at_ j hj
    rw [e2]
    rw [e1] at hh
    exact S.hashEq _ _ e3 kk hh
  · obtain ⟨p, e1, _, e3⟩ := at_ i hi
    obtain ⟨q, f1, _, f3⟩ := at_ j hj
    rw [e1] at h2
    rw [f1] at h3
    have hpq : eqv p.1 q.1 = true := S.trans _ _ _ e3 kk f3 h2 (S.symm _ _ f3 kk h3)
    obtain ⟨hi', ei⟩ := List.getElem?_eq_some_iff.mp e1
    obtain ⟨hj', ej⟩ := List.getElem?_eq_some_iff.mp f1
    rcases Nat.lt_trichotomy i j with l | l | l
    · have z := List.pairwise_iff_getElem.mp h1 i j hi' hj' l
      rw [ei, ej, hpq] at z
      cases z
    · exact l
    · have z := List.pairwise_iff_getElem.mp h1 j i hj' hi' l
      rw [ei, ej, S.symm _ _ e3 f3 hpq] at z
      cases z
  · obtain ⟨p, e1, e2, e3⟩ := at_ j hj
    rw [e2]
    exact S.quiet e3 t hq
  · obtain ⟨p, e1, e2, e3⟩ := at_ j hj
    rw [e2] at hh ⊢
    have hh' : p.1 = key := hh
    show hs p.1 = hs key
    rw [hh']
  · obtain ⟨p, e1, e2, e3⟩ := at_ j hj
    subst ek
    rw [e2] at hx ⊢
    show p.1.isStr x = _
    rw [e1]
    exact S.texts p.1 x t' e3 kk hx
/-- a key's value among the entries -/
def valE (eqv : Value → Value → Bool) (es : List (Value × Value)) (key : Value) : Option Value := (es.find? fun p => eqv p.1 key).map (·.2)
def putE (eqv : Value → Value → Bool) (es : List (Value × Value)) (key v : Value) : List (Value × Value) := if es.any (fun p => eqv p.1 key) then es.map (fun p => if eqv p.1 key then (p.1, v) else p) else es ++ [(key, v)]
theorem raw_get (S : KeySys prog w h0 Ks hs eqv) {A : Around} {E : Value → Shared → Prop} {s : Shared} {es : List (Value × Value)} {d : Addr} {key : Value} {Q : Option Value → Shared → Prop} (hu : A.units < cLine) (t : TupKeep h0 s.heap) (r : RawD Ks hs eqv s.heap d es) (kk : Ks key)
    (hq : ∀ n, Q (valE eqv es key) { s with toks := n }) : wpAny (model prog w) A (dictGet d key) Q E s := by
  obtain ⟨⟨o, ep, ho, hx, hd⟩, hk, h1⟩ := r
  unfold dictGet
  try with_reducible refine wpAny_holding ?_
  refine wpAny_bind (S.hash hu kk t fun n => wpAny_bind ?_)
  have R := rawQ S (s := { s with toks := n }) hu t hk h1 kk
  refine rawFind R ho hd (fun hn => ?_) (fun j hj hh => ?_)
  · refine wpAny_pure ?_
    have e : valE eqv es key = none := by
      unfold valE
      have z : es.find? (fun p => eqv p.1 key) = none := by
        rw [List.find?_eq_none]
        intro p hp hc
        obtain ⟨j, hj⟩ := List.mem_iff_getElem?.mp hp
        have := hn j (by simpa using (List.getElem?_eq_some_iff.mp hj).1)
        rw [hj] at this
        have this' : eqv p.1 key = false := this
        rw [this'] at hc
        cases hc
      rw [z]
      rfl
    rw [← e]
    exact hq n
  · refine wpAny_bind (wpAny_dictEntries (s := { s with toks := n }) ho hd (wpAny_pure ?_))
    have hj' : j < es.length := by simpa using hj
    have ej : es[j]? = some es[j] := List.getElem?_eq_getElem hj'
    rw [ej] at hh
    have e : valE eqv es key = some es[j].2 := by
      unfold valE
      have z : es.find? (fun p => eqv p.1 key) = some es[j] := by
        rw [List.find?_eq_some_iff_getElem]
        refine ⟨hh, j, hj', rfl, fun i hi => ?_⟩
        cases q : eqv es[i].1 key with
        | false => rfl
        | true =>
          have := R.one i j (by simp; omega) hj (by rw [List.getElem?_eq_getElem (show i < es.length by omega)]; exact q) (by rw [ej]; exact hh)
          omega
      rw [z]
      rfl
    have e2 : ((es.map (enOf hs)).toArray[j]?).map (·.val) = some es[j].2 := by
      simp [ej, enOf]
    rw [e2, ← e]
    exact hq n
theorem putE_length (es : List (Value × Value)) (key v : Value) : (putE eqv es key v).length ≤ es.length + 1 := by
  unfold putE
  split
  · rw [List.length_map]; exact Nat.le_succ _
  · rw [List.length_append]; exact Nat.le_refl _
theorem putE_ok (S : KeySys prog w h0 Ks hs eqv) {es : List (Value × Value)} {key v : Value} (kk : Ks key) (hk : ∀ p ∈ es, Ks p.1) (h1 : es.Pairwise fun p q => eqv p.1 q.1 = false) :
    (∀ p ∈ putE eqv es key v, Ks p.1) ∧ (putE eqv es key v).Pairwise fun p q => eqv p.1 q.1 = false := by
  unfold putE
  split
  · rename_i hc
    refine ⟨fun p hp => ?_, ?_⟩
    · obtain ⟨q, hq, rfl⟩ := List.mem_map.mp hp
      split
      · exact hk q hq
      · exact hk q hq
    · refine List.pairwise_map.mpr (h1.imp fun {p q} z => ?_)
      have e : ∀ r : Value × Value, (if eqv r.1 key = true then (r.1, v) else r).1 = r.1 := fun r => by split <;> rfl
      rw [e, e]
      exact z
  · rename_i hc
    refine ⟨fun p hp => ?_, ?_⟩
    · rcases List.mem_append.mp hp with hp | hp
      · exact hk p hp
      · rw [List.mem_singleton.mp hp]
        exact kk
    · refine List.pairwise_append.mpr ⟨h1, List.pairwise_singleton _ _, fun p hp q hq => ?_⟩
      rw [List.mem_singleton.mp hq]
      cases e : eqv p.1 key with
      | false => rfl
      | true => exact absurd (List.any_eq_true.mpr ⟨p, hp, e⟩) hc
theorem raw_set (S : KeySys prog w h0 Ks hs eqv) {A : Around} {E : Value → Shared → Prop} {s : Shared} {es : List (Value × Value)} {d : Addr} {key v : Value} {Q : Unit → Shared → Prop} (hu : A.units < cLine) (t : TupKeep h0 s.heap) (r : RawD Ks hs eqv s.heap d es) (kk : Ks key)
    (hz : es.length ≤ sizeLine) (hq : ∀ h' n, RawD Ks hs eqv h' d (putE eqv es key v) → Heap.SameBut d s.heap h' → Q () { s with heap := h', toks := n }) : wpAny (model prog w) A (dictSet d key v) Q E s := by
  obtain ⟨⟨o, ep, ho, hx, hd⟩, hk, h1⟩ := r
  have PK := putE_ok S (v := v) kk hk h1
  unfold dictSet
  try with_reducible refine wpAny_holding ?_
  refine wpAny_bind (S.hash hu kk t fun n => ?_)
  unfold dictSetHashed
  try with_reducible refine wpAny_holding ?_
  have R := rawQ S (s := { s with toks := n }) hu t hk h1 kk
  refine wpAny_bind (rawFind R ho hd (fun hn => ?_) (fun j hj hh => ?_))
  · have hno : es.any (fun p => eqv p.1 key) = false := by
      rw [List.any_eq_false]
      intro p hp hc
      obtain ⟨j, hj⟩ := List.mem_iff_getElem?.mp hp
      have := hn j (by simpa using (List.getElem?_eq_some_iff.mp hj).1)
      rw [hj] at this
      have this' : eqv p.1 key = false := this
      rw [this'] at hc
      cases hc
    refine wpAny_bind (wpAny_rule (wpAny_updateDictKeys (hz := by simpa using hz) (s := { s with toks := n }) ho hd (hq _ n ⟨⟨_, ep + 1, Heap.get?_update_self _ ho (Obj.isFreed_of_dict (Obj.data_mapDictKeys hd _)), hx.mapDictKeys _, ?_⟩, PK.1, PK.2⟩ (Heap.SameBut.update ..))))
    rw [Obj.data_mapDictKeys hd]
    unfold putE
    rw [hno]
    simp [enOf]
  · have hj' : j < es.length := by simpa using hj
    have ej : es[j]? = some es[j] := List.getElem?_eq_getElem hj'
    rw [ej] at hh
    have hyes : es.any (fun p => eqv p.1 key) = true := List.any_eq_true.mpr ⟨es[j], List.getElem_mem hj', hh⟩
    refine wpAny_bind (wpAny_rule (wpAny_bind (wpAny_updateDict (s := { s with toks := n }) ho hd (wpAny_point (hq _ n ⟨⟨_, ep, Heap.get?_update_self _ ho (Obj.isFreed_of_dict (Obj.data_mapDict hd _)), hx.mapDict _, ?_⟩, PK.1, PK.2⟩ (Heap.SameBut.update ..))))))
    rw [Obj.data_mapDict hd]
    unfold putE
    rw [hyes]
    congr 1
    apply Array.ext'
    simp only [if_true]
    apply List.ext_getElem
    · simp
    · intro i h2 h3
      have hi : i < es.length := by simpa using h2
      simp only [Array.toList_modify, List.getElem_modify, List.getElem_map]
      by_cases e : j = i
      · subst e
        simp only [if_true]
        have hh' : eqv es[j].1 key = true := hh
        rw [if_pos hh']
        rfl
      · rw [if_neg e]
        have hne : eqv es[i].1 key = false := by
          cases q : eqv es[i].1 key with
          | false => rfl
          | true =>
            exact absurd (R.one j i hj (by simpa using hi) (by rw [ej]; exact hh) (by rw [List.getElem?_eq_getElem hi]; exact q)) e
        rw [if_neg (by rw [hne]; exact Bool.false_ne_true)]
end
end EK
end PySem
end
section
set_option Elab.async false
set_option linter.all false
set_option maxRecDepth 100000
set_option maxHeartbeats 4000000
/-! EKM3: dict(pairs) with keys of several kinds, raw -/
namespace PySem
namespace EK
open Sem (wp)
open PySem.Spec PyProof.Rows L2
def mergeE (eqv : Value → Value → Bool) (acc prs : List (Value × Value)) : List (Value × Value) := prs.foldl (fun a p => putE eqv a p.1 p.2) acc
section
variable {prog : Program} {w : World} {h0 : Heap} {Ks : Value → Prop} {hs : Value → Int} {eqv : Value → Value → Bool} {A : Around} {E : Value → Shared → Prop}
theorem raw_loop (K : KeySys prog w h0 Ks hs eqv) {R : Result → Shared → Prop} {S I l : Addr} {items : Array Value} {res : Value} (hu : A.units + 1 < cLine) (hh : A.handled = none) (hlI : l ≠ I) (hSI : S ≠ I) (hSl : S ≠ l) :
    ∀ (rest : List (Value × Value)) (i : Nat) (acc : List (Value × Value)) (ix : Int) (t : Tok) (s : Shared), items.size = i + rest.length → acc.length + rest.length ≤ sizeLine → TupKeep h0 s.heap →
      (∀ (j : Nat) (q : Value × Value), rest[j]? = some q → ∃ b : Addr, items[i + j]? = some (.ref b) ∧ b ≠ S ∧ b ≠ I ∧ IsTup s.heap b #[q.1, q.2] ∧ Ks q.1) →
      s.heap.IsListIter I l i → s.heap.IsList l items → RawD Ks hs eqv s.heap S acc →
      (∀ h' tk, RawD Ks hs eqv h' S (mergeE eqv acc rest) → (∀ b o, b ≠ S → b ≠ I → s.heap.get? b = some o → h'.get? b = some o) → R (.ok (.ret res)) { s with heap := h', toks := tk }) →
      codeAny (model prog w) A (.builtin "dict.update.loop" ⟨[.ref S, .ref I, .int ix t, res], []⟩) R s
  | [], i, acc, ix, t, s, hsz, hln, tk0, ht, hit, hl, hm, hR => by
    refine codeAny_builtin ud_entry ?_
    rw [Around.under_plainId ud_plain _]
    show wpAny _ A.in1 (pyNext (.ref I) >>= _) _ _ s
    refine wpAny_bind (wpAny_pyNext_list_end (A := A.in1) hh hit hl (by first | exact Array.getElem?_eq_none (Nat.le_of_eq hsz) | (simp at hsz; simp; omega)) fun h' he => ?_)
    show wpAny _ A.in1 (Builtin.Dict.addKeywords S [] >>= _) _ _ _
    refine wpAny_bind (wpAny_pure (wpAny_pure ?_))
    exact hR h' s.toks (hm.extBut he hSI) fun b o _ hb e => he b o hb e
  | q :: rest, i, acc, ix, t, s, hsz, hln, tk0, ht, hit, hl, hm, hR => by
    obtain ⟨b, hb, hbS, hbI, htup, hk⟩ := ht 0 q rfl
    rw [List.length_cons] at hsz hln
    refine codeAny_builtin ud_entry ?_
    rw [Around.under_plainId ud_plain _]
    show wpAny _ A.in1 (pyNext (.ref I) >>= _) _ _ s
    obtain ⟨oI, hoI, hcI, _⟩ := id hit
    refine wpAny_bind (wpAny_pyNext_list_item (x := .ref b) hit hl (by simpa using hb) fun h1 hit1 hs1 => ?_)
    have ht1 : IsTup h1 b #[q.1, q.2] := htup.extBut hs1.extBut hbI
    have hl1 : h1.IsList l items := hl.extBut hs1.extBut hlI
    have hm1 : RawD Ks hs eqv h1 S acc := hm.extBut hs1.extBut hSI
    have tk1 : TupKeep h0 h1 := tk0.but hoI (by rw [hcI]; intro z; exact absurd (Value.type.inj z) (by decide)) hs1.extBut
    obtain ⟨o, ho, hc, n, hd⟩ := id ht1
    show wpAny _ A.in1 (holding [Value.ref b] _ >>= _) _ _ _
    refine wpAny_bind (wpAny_holding ?_)
    refine wpAny_bind (wpAny_tryCatch ?_)
    unfold Builtin.Dict.pairItems
    refine wpAny_bind (wpAny_typeOf (T := "tuple") ⟨o, ho, hc⟩ ?_)
    rw [if_pos (by first | decide | rfl | simp)]
    refine wpAny_bind (wpAny_seqItems ho hd (wpAny_pure ?_))
    show wpAny _ A.in1 (holding [q.1, q.2] (dictSet S q.1 q.2)) _ _ _
    obtain ⟨oS, epS, hoS, hxS, _⟩ := hm1.obj
    refine wpAny_holding (raw_set K (A := A.in1) (by show A.units + 1 < cLine; exact hu) tk1 hm1 hk (by omega) fun h2 n2 hm2 hs2 => ?_)
    have tk2 : TupKeep h0 h2 := tk1.but hoS (by rw [hxS.1]; intro z; exact absurd (Value.type.inj z) (by decide)) hs2.extBut
    refine wpAny_pure ⟨plainId_quiet ud_plain _, raw_loop K (items := items) hu hh hlI hSI hSl rest (i + 1) (putE eqv acc q.1 q.2) (ix + 1) 0 _ (show items.size = i + 1 + rest.length by omega) ?_ tk2 (fun j q' e => ?_) ?_ ?_ hm2 fun h' tk hd' k => ?_⟩
    · have z := putE_length (eqv := eqv) acc q.1 q.2
      omega
    · obtain ⟨b', hb', hbS', hbI', htup', hk'⟩ := ht (j + 1) q' (by simpa using e)
      refine ⟨b', ?_, hbS', hbI', (htup'.extBut hs1.extBut hbI').extBut hs2.extBut hbS', hk'⟩
      rw [show i + 1 + j = i + (j + 1) by omega]
      exact hb'
    · exact hit1.at fun o' e => hs2.extBut I o' (Ne.symm hSI) e
    · exact hl1.extBut hs2.extBut (Ne.symm hSl)
    · exact hR h' tk hd' fun c oc h3 h4 e => k c oc h3 h4 (hs2.extBut c oc h3 (hs1.extBut c oc h4 e))
theorem raw_dict (K : KeySys prog w h0 Ks hs eqv) {s : Shared} {l : Addr} {ol : Obj} {items : Array Value} {n : Nat} {prs : List (Value × Value)} {Q : Value → Shared → Prop} (hu : A.units + 3 < cLine) (t0 : TupKeep h0 s.heap) (hh : A.handled = none) (hl : s.heap.get? l = some ol) (hc : ol.cls = .type "list") (hd : ol.dict = none)
    (hdat : ol.data = .seq items n) (hsz : items.size = prs.length) (hln : prs.length ≤ sizeLine)
    (ht : ∀ (j : Nat) (q : Value × Value), prs[j]? = some q → ∃ b : Addr, items[j]? = some (.ref b) ∧ IsTup s.heap b #[q.1, q.2] ∧ Ks q.1)
    (h : ∀ h' tk, RawD Ks hs eqv h' s.heap.objs.size (mergeE eqv [] prs) → (∀ b o, s.heap.get? b = some o → h'.get? b = some o) → Q (.ref s.heap.objs.size) { s with heap := h', toks := tk }) :
    wpAny (model prog w) A (call (.type "dict") [.ref l]) Q E s := by
  refine callType_codes (Q₁ := fun obj s₁ => obj = .ref s.heap.objs.size ∧ s₁ = { s with heap := s.heap.push { cls := .type "dict", data := .dict #[] } }) PySem.F.kt_called_dict (PySem.F.kt_typeCall_dict_1 _) PySem.F.entry_dict_init (kt_code_dict_new _ ⟨rfl, rfl⟩) ?_
  rintro obj s₁ ⟨rfl, rfl⟩
  have hnew : RawD Ks hs eqv (s.heap.push { cls := .type "dict", data := .dict #[] }) s.heap.objs.size [] := RawD.new s.heap
  have k0 : ∀ b o, s.heap.get? b = some o → (s.heap.push { cls := .type "dict", data := .dict #[] }).get? b = some o := fun b o e => Heap.get?_push_of_some _ e
  refine ⟨RawD.typeIs (s := { s with heap := s.heap.push { cls := .type "dict", data := .dict #[] } }) hnew, PySem.F.args_dict_init_2 _ _, ?_⟩
  unfold Builtin.«dict.__init__»
  refine wpAny_bind ?_
  unfold Builtin.Dict.selfAndRest
  refine wpAny_bind (wpAny_notOrdered_dict (RawD.typeIs (s := { s with heap := s.heap.push { cls := .type "dict", data := .dict #[] } }) hnew) ?_)
  show wpAny _ _ (pure (s.heap.objs.size, [Value.ref l])) _ _ _
  refine wpAny_pure ?_
  show wpAny _ _ (Builtin.Dict.updateFrom "dict.__init__" s.heap.objs.size (.ref l) [] .none) _ _ _
  unfold Builtin.Dict.updateFrom
  refine wpAny_bind (wpAny_typeOf (T := "list") ⟨ol, k0 _ _ hl, hc⟩ ?_)
  rw [if_pos (by first | decide | rfl | simp)]
  refine wpAny_bind (miss_list (k0 _ _ hl) hc hdat hd hh fun h1 tk1 hk1 => ?_)
  rw [if_pos (show (none : Option Value).isNone = true from rfl)]
  refine wpAny_bind (wpAny_rule ?_)
  have hl1 : h1.IsList l items := ⟨ol, hk1 _ _ (k0 _ _ hl), hc, n, hdat⟩
  have hS1 : s.heap.objs.size < h1.objs.size := by
    have e : (s.heap.push { cls := .type "dict", data := .dict #[] }).get? s.heap.objs.size = some { cls := .type "dict", data := .dict #[] } := Heap.get?_push_size _ rfl
    exact Heap.lt_size (hk1 _ _ e)
  refine wpAny_bind (wpAny_pyIter_list hl1 ?_)
  have k2 : ∀ b o, h1.get? b = some o → (h1.push { cls := .type "list_iterator", data := .fields #[.ref l, .int 0 0] }).get? b = some o := fun b o e => Heap.get?_push_of_some _ e
  have hlt : l < s.heap.objs.size := Heap.lt_size hl
  have key := raw_loop K (A := A.in1) (R := wants (fun r s₂ => r = .none ∧ Q (.ref s.heap.objs.size) s₂) E) (S := s.heap.objs.size) (I := h1.objs.size) (l := l) (items := items) (res := Value.none) (by show A.units + 1 + 1 < cLine; omega) hh
    (Nat.ne_of_lt (Nat.lt_trans hlt hS1)) (Nat.ne_of_lt hS1) (Nat.ne_of_gt hlt) prs 0 [] 0 0
    { s with heap := h1.push { cls := .type "list_iterator", data := .fields #[.ref l, .int 0 0] }, toks := tk1 } (by rw [hsz, Nat.zero_add]) (by rw [List.length_nil, Nat.zero_add]; exact hln)
    (t0.of fun b o e => k2 _ _ (hk1 _ _ (k0 _ _ e)))
    (fun j q e => by
      obtain ⟨b, e1, e2, e3⟩ := ht j q e
      have hb : b < s.heap.objs.size := e2.lt
      exact ⟨b, by rw [Nat.zero_add]; exact e1, Nat.ne_of_lt hb, Nat.ne_of_lt (Nat.lt_trans hb hS1), e2.keeps fun c o z => k2 _ _ (hk1 _ _ (k0 _ _ z)), e3⟩)
    ⟨_, Heap.get?_push_size _ rfl, rfl, rfl⟩ (hl1.at fun o e => k2 _ _ e) ((hnew.at fun o e => hk1 _ _ e).at fun o e => k2 _ _ e)
    (fun h' tk hd' k => ⟨rfl, h h' tk hd' fun b o e => k b o (Nat.ne_of_lt (Heap.lt_size e)) (Nat.ne_of_lt (Nat.lt_trans (Heap.lt_size e) hS1)) (k2 _ _ (hk1 _ _ (k0 _ _ e)))⟩)
  first
    | exact wpAny_pure ⟨plainId_quiet ud_plain _, key⟩
    | exact wpAny_bind (wpAny_pure (wpAny_pure ⟨plainId_quiet ud_plain _, key⟩))
end
end EK
end PySem
end
section
set_option Elab.async false
set_option linter.all false
set_option maxRecDepth 100000
set_option maxHeartbeats 4000000
/-! EKM4: keys: None, truth values, whole numbers, texts, tuples of one text -/
namespace PySem
namespace EK
open Sem (wp)
open PySem.Spec PyProof.Rows L2
inductive NK where
  | n | i (k : Int) | s (x : Str) | t (x : Str)
  deriving DecidableEq
def nkOne (its : List Value) : Option NK := match its with
  | [.str x _] => some (.t x)
  | _ => none
def nkRef (o : Option Obj) : Option NK := match o with
  | some ⟨c, _, .seq items _, _⟩ => if c = .type "tuple" then nkOne items.toList else none
  | _ => none
def nk (h0 : Heap) : Value → Option NK
  | .none => some .n
  | .bool b => some (.i (if b then 1 else 0))
  | .int k _ => some (.i k)
  | .str x _ => some (.s x)
  | .ref a => nkRef (h0.get? a)
  | _ => none
def nkHash (prog : Program) (w : World) : NK → Int
  | .n => reduceHash 0xFCA86420
  | .i k => hashInt k
  | .s x => hashStr w x
  | .t x => tupleKeyHash (mixKind prog w) [Sum.inr x]
def KsOf (h0 : Heap) (v : Value) : Prop := ∃ k, nk h0 v = some k
def hsOf (prog : Program) (w : World) (h0 : Heap) (v : Value) : Int := match nk h0 v with
  | some k => nkHash prog w k
  | none => 0
def eqOf (h0 : Heap) (u v : Value) : Bool := decide (nk h0 u = nk h0 v)
theorem nk_ref {prog : Program} {w : World} {h0 : Heap} {a : Addr} {k : NK} (h : nk h0 (.ref a) = some k) : ∃ x, k = .t x ∧ IsTupleKey (mixKind prog w) h0 [Sum.inr x] a ∧ ∃ items, h0.IsTuple a items := by
  have h' : nkRef (h0.get? a) = some k := h
  cases e : h0.get? a with
  | none =>
    rw [e] at h'
    cases h'
  | some o =>
    rw [e] at h'
    obtain ⟨c, dd, data, sl⟩ := o
    cases data with
    | seq items n =>
      have h2 : (if c = Value.type "tuple" then nkOne items.toList else none) = some k := h'
      by_cases hc : c = Value.type "tuple"
      · rw [if_pos hc] at h2
        subst hc
        unfold nkOne at h2
        split at h2
        · rename_i x t hi
          cases h2
          refine ⟨x, rfl, ⟨_, items, n, e, rfl, rfl, ?_⟩, items, _, e, rfl, n, rfl⟩
          rw [hi]
          exact .cons (keyIs_str x t) .nil
        · cases h2
      · rw [if_neg hc] at h2
        cases h2
    | _ => cases h'
theorem IsTupleKey.tk {prog : Program} {w : World} {h0 h : Heap} {ks : List Key} {a : Addr} (t : TupKeep h0 h) (x : IsTupleKey (mixKind prog w) h0 ks a) : IsTupleKey (mixKind prog w) h ks a := by
  obtain ⟨o, items, n, ho, hc, r⟩ := x
  exact ⟨o, items, n, t _ _ ho hc, hc, r⟩
theorem isTuple_tk {h0 h : Heap} {items : Array Value} {a : Addr} (t : TupKeep h0 h) (x : h0.IsTuple a items) : h.IsTuple a items := by
  obtain ⟨o, ho, hc, r⟩ := x
  exact ⟨o, t _ _ ho hc, hc, r⟩
theorem keySys (prog : Program) (w : World) (h0 : Heap) : KeySys prog w h0 (KsOf h0) (hsOf prog w h0) (eqOf h0) where
  hash := by
    intro A E s k Q hu ⟨c, hc⟩ t hq
    have hq' : ∀ n, Q (nkHash prog w c) { s with toks := n } := fun n => by
      have z := hq n
      unfold hsOf at z
      rw [hc] at z
      exact z
    cases k with
    | none =>
      cases hc
      exact PySem.W.pyHash_slot (T := "NoneType") rfl PySem.F.slot_NoneType_hash PySem.F.entry_NoneType_hash (PySem.F.args_NoneType_hash_1 _) (beq_builtin_none _) (.inl rfl) (wpAny_bind (wpAny_pure (wpAny_bind (wpAny_mkInt (wpAny_pure ⟨_, _, rfl, hq' _⟩)))))
    | bool b =>
      cases hc
      exact PpSet.pyHash_bool (hq' _)
    | int i tk =>
      cases hc
      exact wpAny_pyHash_int (hq' _)
    | str x tk =>
      cases hc
      exact wpAny_pyHash_str (hq' _)
    | ref a =>
      obtain ⟨x, rfl, hk, _⟩ := nk_ref (prog := prog) (w := w) hc
      exact wpAny_pyHash_tuple (knd := mixKind prog w) hu (IsTupleKey.tk t hk) (hq' _)
    | _ => cases hc
  eq := by
    intro A E s k k' Q hu ⟨c, hc⟩ ⟨c', hc'⟩ t hq
    have hq' : Q (decide (c = c')) s := by
      have z := hq
      unfold eqOf at z
      rw [hc, hc'] at z
      simpa using z
    have F : ∀ {a b : Value} {r : Bool}, SeqAt.EqAt A s a b r → r = decide (c = c') → wpAny (model prog w) A (eqBool a b) Q E s := fun {a b r} e er => e prog w E Q (by rw [er]; exact hq')
    cases k with
    | none =>
      cases hc
      cases k' with
      | none => cases hc'; exact F (SeqAt.EqAt.same _) (by simp)
      | bool b => cases hc'; exact F (SeqAt.EqAt.none_bool b) (by simp)
      | int b u => cases hc'; exact F (SeqAt.EqAt.none_int b u) (by simp)
      | str b u => cases hc'; exact F (SeqAt.EqAt.none_str b u) (by simp)
      | ref a =>
        obtain ⟨x, rfl, _, its, hi⟩ := nk_ref (prog := prog) (w := w) hc'
        exact F (SeqAt.EqAt.none_tuple (isTuple_tk t hi) hu) (by simp)
      | _ => cases hc'
    | bool c1 =>
      cases hc
      cases k' with
      | none => cases hc'; exact F (SeqAt.EqAt.bool_none c1) (by simp)
      | bool b => cases hc'; exact F (SeqAt.EqAt.bool_bool c1 b) (by cases c1 <;> cases b <;> decide)
      | int b u => cases hc'; exact F (SeqAt.EqAt.bool_int c1 b u) (by by_cases z : (if c1 = true then (1 : Int) else 0) = b <;> simp [z])
      | str b u => cases hc'; exact F (SeqAt.EqAt.bool_str c1 b u) (by simp)
      | ref a =>
        obtain ⟨x, rfl, _, its, hi⟩ := nk_ref (prog := prog) (w := w) hc'
        exact F (SeqAt.EqAt.bool_tuple c1 (isTuple_tk t hi) hu) (by simp)
      | _ => cases hc'
    | int c1 t1 =>
      cases hc
      cases k' with
      | none => cases hc'; exact F (SeqAt.EqAt.int_none c1 t1) (by simp)
      | bool b => cases hc'; exact F (SeqAt.EqAt.int_bool c1 t1 b) (by by_cases z : c1 = (if b = true then (1 : Int) else 0) <;> simp [z])
      | int b u => cases hc'; exact F (SeqAt.EqAt.int_int c1 t1 b u) (by by_cases z : c1 = b <;> simp [z])
      | str b u => cases hc'; exact F (SeqAt.EqAt.int_str c1 t1 b u) (by simp)
      | ref a =>
        obtain ⟨x, rfl, _, its, hi⟩ := nk_ref (prog := prog) (w := w) hc'
        exact F (SeqAt.EqAt.int_tuple c1 t1 (isTuple_tk t hi) hu) (by simp)
      | _ => cases hc'
    | str c1 t1 =>
      cases hc
      cases k' with
      | none => cases hc'; exact F (SeqAt.EqAt.str_none c1 t1) (by simp)
      | bool b => cases hc'; exact F (SeqAt.EqAt.str_bool c1 t1 b) (by simp)
      | int b u => cases hc'; exact F (SeqAt.EqAt.str_int c1 t1 b u) (by simp)
      | str b u => cases hc'; exact F (SeqAt.EqAt.str_str c1 t1 b u) (by by_cases z : c1 = b <;> simp [z])
      | ref a =>
        obtain ⟨x, rfl, _, its, hi⟩ := nk_ref (prog := prog) (w := w) hc'
        exact F (SeqAt.EqAt.str_tuple c1 t1 (isTuple_tk t hi) hu) (by simp)
      | _ => cases hc'
    | ref a1 =>
      obtain ⟨x1, rfl, hk1, its1, hi1⟩ := nk_ref (prog := prog) (w := w) hc
      cases k' with
      | none => cases hc'; exact F (SeqAt.EqAt.tuple_none (isTuple_tk t hi1) hu) (by simp)
      | bool b => cases hc'; exact F (SeqAt.EqAt.tuple_bool b (isTuple_tk t hi1) hu) (by simp)
      | int b u => cases hc'; exact F (SeqAt.EqAt.tuple_int b u (isTuple_tk t hi1) hu) (by simp)
      | str b u => cases hc'; exact F (SeqAt.EqAt.tuple_str b u (isTuple_tk t hi1) hu) (by simp)
      | ref a =>
        obtain ⟨x, rfl, hk, its, hi⟩ := nk_ref (prog := prog) (w := w) hc'
        refine wpAny_eqBool_tuple (knd := mixKind prog w) hu (IsTupleKey.tk t hk1) (IsTupleKey.tk t hk) ?_
        have e : decide ([Sum.inr x1] = ([Sum.inr x] : List Key)) = decide (NK.t x1 = NK.t x) := by
          by_cases z : x1 = x
          · subst z
            simp
          · rw [decide_eq_false (by simpa using z), decide_eq_false (by simpa using z)]
        rw [e]
        exact hq'
      | _ => cases hc'
    | _ => cases hc
  quiet := by
    intro A E s k Q ⟨c, hc⟩ t hq
    cases k with
    | ref a =>
      obtain ⟨x, rfl, hk, _⟩ := nk_ref (prog := prog) (w := w) hc
      exact wpAny_eqIsQuiet_tuple (knd := mixKind prog w) (IsTupleKey.tk t hk) hq
    | none => rw [eqIsQuiet_byValue 8 rfl]; exact wpAny_pure hq
    | bool b => rw [eqIsQuiet_byValue 8 rfl]; exact wpAny_pure hq
    | int i u => rw [eqIsQuiet_byValue 8 rfl]; exact wpAny_pure hq
    | str x u => rw [eqIsQuiet_byValue 8 rfl]; exact wpAny_pure hq
    | _ => cases hc
  kind := fun k ⟨c, hc⟩ => by
    cases k with
    | none => exact .inl rfl
    | bool b => exact .inr (.inl ⟨b, rfl⟩)
    | int i u => exact .inr (.inr (.inl ⟨i, u, rfl⟩))
    | str x u => exact .inr (.inr (.inr (.inl ⟨x, u, rfl⟩)))
    | ref a => exact .inr (.inr (.inr (.inr ⟨a, rfl⟩)))
    | _ => cases hc
  hashEq := fun k k' _ _ h => by
    have e : nk h0 k = nk h0 k' := of_decide_eq_true h
    unfold hsOf
    rw [e]
  refl := fun k _ => decide_eq_true rfl
  symm := fun k k' _ _ h => decide_eq_true (of_decide_eq_true h).symm
  trans := fun k k' k'' _ _ _ h1 h2 => decide_eq_true ((of_decide_eq_true h1).trans (of_decide_eq_true h2))
  texts := fun k x t hk _ hx => by
    cases k with
    | str y u =>
      show (Value.str y u).isStr x = decide (some (NK.s y) = some (NK.s x))
      by_cases z : y = x
      · subst z
        simp [Value.isStr]
      · simp [Value.isStr, z]
    | _ => cases hx
end EK
end PySem
end
section
set_option Elab.async false
set_option linter.all false
set_option maxRecDepth 100000
set_option maxHeartbeats 4000000
/-! EKM5: a dict with keys of several kinds as an object of the layer; dict(pairs) -/
namespace L2
open PySem PySem.Spec PyProof.Rows PySem.EK
/-- a key: a flat value, or a tuple of one text at t -/
inductive MK where
  | fl (v : V)
  | tp (t : Addr) (x : Str)
def MK.v : MK → V
  | .fl v => v
  | .tp t _ => .ref t
def MK.n : MK → Option NK
  | .fl .non => some .n
  | .fl (.bl b) => some (.i (if b then 1 else 0))
  | .fl (.int i) => some (.i i)
  | .fl (.str x) => some (.s x)
  | .fl _ => none
  | .tp _ x => some (.t x)
/-- the tuples of the keys stand there -/
def MK.ok (K : PySem.W.Frag) (H : Hp) : MK → Prop
  | .fl _ => True
  | .tp t x => SqT K H t [.str x]
def EnR (P : Program) (w : World) (p : MK × V) (e : DictEntry) : Prop := RelV p.1.v e.key ∧ (∃ k, p.1.n = some k ∧ e.hash = nkHash P w k) ∧ RelV p.2 e.val
/-- at a stands, in the heap, a dict of these keys and values -/
def MxAt (P : Program) (w : World) (h : Heap) (a : Addr) (es : List (MK × V)) : Prop := ∃ o ep arr, h.get? a = some o ∧ o.ExactDict ∧ o.data = .dict (List.toArray arr) ep ∧ Paired (EnR P w) es arr ∧ (es.map (·.1.n)).Nodup
def MxO (P : Program) (w : World) (a : Addr) (es : List (MK × V)) : HO := .ext fun h => MxAt P w h a es ∧ (a == sysModules) = false ∧ es.length ≤ sizeLine
theorem MxAt.keeps {P : Program} {w : World} {h h' : Heap} {a : Addr} {es : List (MK × V)} (x : MxAt P w h a es) (k : ∀ o, h.get? a = some o → h'.get? a = some o) : MxAt P w h' a es := by
  obtain ⟨o, ep, arr, ho, r⟩ := x
  exact ⟨o, ep, arr, k o ho, r⟩
theorem mxO_ok {P : Program} {w : World} {H : Hp} {h : Heap} {a : Addr} {es : List (MK × V)} (x : MxAt P w h a es) (y : (a == sysModules) = false) (z : es.length ≤ sizeLine) : ObjOk P w H h a (MxO P w a es) := by
  obtain ⟨o, ep, arr, ho, r⟩ := id x
  exact ⟨⟨x, y, z⟩, ⟨o, ho⟩, fun h1 h2 q k => ⟨q.1.keeps k, q.2⟩⟩
theorem mxO_at {P : Program} {w : World} {H : Hp} {h : Heap} {a : Addr} {es : List (MK × V)} (ok : HOk P w H h) (e : Rd H a (MxO P w a es)) : MxAt P w h a es ∧ (a == sysModules) = false ∧ es.length ≤ sizeLine := by
  obtain ⟨x, _⟩ := (show ObjOk P w H h a (MxO P w a es) from e.ok ok)
  exact x
theorem paired_at {α β : Type} {F : α → β → Prop} : ∀ {xs : List α} {ys : List β}, Paired F xs ys → ∀ {i : Nat} {x : α}, xs[i]? = some x → ∃ y, ys[i]? = some y ∧ F x y
  | _, _, .nil, _, _, e => by simp at e
  | _, _, .cons r t, i, x, e => by
    cases i with
    | zero => simp at e; subst e; exact ⟨_, rfl, r⟩
    | succ i =>
      obtain ⟨y, h1, h2⟩ := paired_at t (i := i) (x := x) (by simpa using e)
      exact ⟨y, by simpa using h1, h2⟩
def flK (p : Key × V) : MK × V := (.fl (kV p.1), p.2)
/-- a dict: of ints and texts, or of several kinds -/
def DictV (P : Program) (w : World) (H : Hp) (a : Addr) (es : List (MK × V)) : Prop := (∃ kvs, Rd H a (.dK kvs) ∧ es = kvs.map flK) ∨ Rd H a (MxO P w a es)
theorem paired_pairs {P : Program} {w : World} : ∀ {kvs : List (Key × V)} {vs : List (Key × Value)} {es : List DictEntry}, KV kvs vs → Pairs (mixKind P w) es vs → (∀ e ∈ es, ∃ k, (mixKind P w).is k e.key = true ∧ e.hash = (mixKind P w).hash k) → Paired (EnR P w) (kvs.map flK) es
  | _, _, _, .nil, .nil, _ => .nil
  | _, _, _, .cons (a := p) (b := q) ⟨e1, r⟩ t, .cons (e := e) h1 h2 t2, hk => by
    refine .cons ?_ (paired_pairs t t2 fun e he => hk e (List.mem_cons_of_mem _ he))
    have h1' : keyIs q.1 e.key = true := h1
    obtain ⟨k, hk1, hk2⟩ := hk e List.mem_cons_self
    have ek : k = q.1 := (mixKind P w).inj _ _ _ hk1 h1
    have hk2' : e.hash = keyH w q.1 := by rw [hk2, ek]; rfl
    show EnR P w (.fl (kV p.1), p.2) e
    rw [e1]
    rcases keyIs_shape h1' with ⟨i, tk, e2, e3⟩ | ⟨x, tk, e2, e3⟩
    · rw [e2] at hk2' ⊢
      exact ⟨⟨tk, e3⟩, ⟨.i i, rfl, hk2'⟩, by rw [h2]; exact r⟩
    · rw [e2] at hk2' ⊢
      exact ⟨⟨tk, e3⟩, ⟨.s x, rfl, hk2'⟩, by rw [h2]; exact r⟩
def keyN (k : Key) : Option NK := (MK.fl (kV k)).n
theorem keyN_inj {a b : Key} (h : keyN a = keyN b) : a = b := by
  cases a <;> cases b <;> simp [keyN, MK.n, kV] at h <;> simp [h]
theorem nodup_fl {kvs : List (Key × V)} (h : (kvs.map (·.1)).Nodup) : ((kvs.map flK).map (·.1.n)).Nodup := by
  have e : (kvs.map flK).map (·.1.n) = (kvs.map (·.1)).map keyN := by
    rw [List.map_map, List.map_map]
    rfl
  rw [e]
  exact List.pairwise_map.mpr (h.imp fun {a b} z q => z (keyN_inj q))
theorem DictV.at {P : Program} {w : World} {H : Hp} {h : Heap} {a : Addr} {es : List (MK × V)} (ok : HOk P w H h) (x : DictV P w H a es) : MxAt P w h a es ∧ (a == sysModules) = false ∧ es.length ≤ sizeLine := by
  rcases x with ⟨kvs, e, rfl⟩ | e
  · obtain ⟨z, lo, vs, rel, o, es, ep, ho, hx, hd, hk, hp, hn⟩ := dk_rd ok e
    refine ⟨⟨o, ep, es.toList, ho, hx, by rw [hd], paired_pairs rel hp fun e he => hk e (Array.mem_toList_iff.mp he), nodup_fl (by rw [rel.keys]; exact hn)⟩, lo, by rw [List.length_map]; exact z⟩
  · exact mxO_at ok e
/-- dict(pairs): the entries, later ones win -/
def putM (es : List (MK × V)) (k : MK) (v : V) : List (MK × V) := if es.any (fun p => decide (p.1.n = k.n)) then es.map (fun p => if p.1.n = k.n then (p.1, v) else p) else es ++ [(k, v)]
def mergeM (acc prs : List (MK × V)) : List (MK × V) := prs.foldl (fun a p => putM a p.1 p.2) acc
section
variable {X : Cx} {pins : List (Addr × Obj)} {σ : St} {H : Hp} {s : Shared}
theorem mk_nk (I : Inv X pins σ H s) {m : MK} {k : NK} {u : Value} (hn : m.n = some k) (ok : m.ok X.K H) (r : RelV m.v u) : nk s.heap u = some k := by
  cases m with
  | fl v =>
    cases v with
    | non => cases hn; cases (show u = Value.none from r); rfl
    | bl b => cases hn; cases (show u = Value.bool b from r); rfl
    | int i => cases hn; obtain ⟨t, rfl⟩ := (show ∃ t, u = Value.int i t from r); rfl
    | str x => cases hn; obtain ⟨t, rfl⟩ := (show ∃ t, u = Value.str x t from r); rfl
    | _ => cases hn
  | tp t x =>
    cases hn
    cases (show u = Value.ref t from r)
    obtain ⟨its, rv, ⟨o, ho, hc, n, hd⟩, _⟩ := I.tuple (show SqT X.K H t [.str x] from ok)
    obtain ⟨y, ey, ry⟩ := vals1 rv
    subst ey
    obtain ⟨tk, rfl⟩ := (show ∃ t, y = Value.str x t from ry)
    show nkRef (s.heap.get? t) = _
    rw [ho]
    obtain ⟨c, dd, data, sl⟩ := o
    dsimp only at hc hd
    subst hc hd
    simp [nkRef, nkOne]
/-- keys and values of the layer and of the heap -/
def PrR (h0 : Heap) (p : MK × V) (q : Value × Value) : Prop := RelV p.1.v q.1 ∧ nk h0 q.1 = p.1.n ∧ p.1.n.isSome = true ∧ RelV p.2 q.2
theorem paired_any {h0 : Heap} {k : MK} {u : Value} (hk : nk h0 u = k.n) : ∀ {es : List (MK × V)} {vs : List (Value × Value)}, Paired (PrR h0) es vs → es.any (fun p => decide (p.1.n = k.n)) = vs.any (fun p => eqOf h0 p.1 u)
  | _, _, .nil => rfl
  | _, _, .cons (a := p) (b := q) r t => by
    rw [List.any_cons, List.any_cons, paired_any hk t]
    have e : eqOf h0 q.1 u = decide (p.1.n = k.n) := by
      unfold eqOf
      rw [r.2.1, hk]
    rw [e]
theorem paired_map {h0 : Heap} {k : MK} {u : Value} {v : V} {val : Value} (hk : nk h0 u = k.n) (rv : RelV v val) : ∀ {es : List (MK × V)} {vs : List (Value × Value)}, Paired (PrR h0) es vs →
    Paired (PrR h0) (es.map (fun p => if p.1.n = k.n then (p.1, v) else p)) (vs.map (fun p => if eqOf h0 p.1 u then (p.1, val) else p))
  | _, _, .nil => .nil
  | _, _, .cons (a := p) (b := q) r t => by
    refine .cons ?_ (paired_map hk rv t)
    have e : eqOf h0 q.1 u = decide (p.1.n = k.n) := by
      unfold eqOf
      rw [r.2.1, hk]
    dsimp only
    by_cases c : p.1.n = k.n
    · rw [if_pos c, e, decide_eq_true c, if_pos rfl]
      exact ⟨r.1, r.2.1, r.2.2.1, rv⟩
    · rw [if_neg c, e, decide_eq_false c, if_neg Bool.false_ne_true]
      exact r
theorem paired_app {α β : Type} {F : α → β → Prop} : ∀ {xs ys : List α} {us ws : List β}, Paired F xs us → Paired F ys ws → Paired F (xs ++ ys) (us ++ ws)
  | _, _, _, _, .nil, s => s
  | _, _, _, _, .cons r t, s => .cons r (paired_app t s)
theorem paired_put {h0 : Heap} {es : List (MK × V)} {vs : List (Value × Value)} {p : MK × V} {q : Value × Value} (a : Paired (PrR h0) es vs) (b : PrR h0 p q) : Paired (PrR h0) (putM es p.1 p.2) (putE (eqOf h0) vs q.1 q.2) := by
  unfold putM putE
  rw [paired_any b.2.1 a]
  split
  · exact paired_map b.2.1 b.2.2.2 a
  · exact paired_app a (.cons b .nil)
theorem paired_merge {h0 : Heap} : ∀ {prs : List (MK × V)} {qs : List (Value × Value)} {es : List (MK × V)} {vs : List (Value × Value)}, Paired (PrR h0) prs qs → Paired (PrR h0) es vs → Paired (PrR h0) (mergeM es prs) (mergeE (eqOf h0) vs qs)
  | _, _, _, _, .nil, a => a
  | _, _, es, vs, .cons (a := p) (b := q) (l₁ := ps) (l₂ := qs) r t, a => by
    show Paired (PrR h0) (mergeM (putM es p.1 p.2) ps) (mergeE (eqOf h0) (putE (eqOf h0) vs q.1 q.2) qs)
    exact paired_merge t (paired_put a r)
theorem paired_en {P : Program} {w : World} {h0 : Heap} : ∀ {es : List (MK × V)} {vs : List (Value × Value)}, Paired (PrR h0) es vs → Paired (EnR P w) es (vs.map (enOf (hsOf P w h0)))
  | _, _, .nil => .nil
  | _, _, .cons (a := p) (b := q) r t => by
    refine .cons ⟨r.1, ?_, r.2.2.2⟩ (paired_en t)
    obtain ⟨k, hk⟩ := Option.isSome_iff_exists.mp r.2.2.1
    refine ⟨k, hk, ?_⟩
    show hsOf P w h0 q.1 = _
    unfold hsOf
    rw [r.2.1, hk]
theorem nodup_pr {h0 : Heap} : ∀ {es : List (MK × V)} {vs : List (Value × Value)}, Paired (PrR h0) es vs → vs.Pairwise (fun p q => eqOf h0 p.1 q.1 = false) → (es.map (·.1.n)).Nodup
  | _, _, .nil, _ => List.nodup_nil
  | _, _, .cons (a := p) (b := q) (l₁ := ps) (l₂ := qs) r t, h => by
    obtain ⟨h1, h2⟩ := List.pairwise_cons.mp h
    refine List.nodup_cons.mpr ⟨fun hm => ?_, nodup_pr t h2⟩
    obtain ⟨p', hp', e⟩ := List.mem_map.mp hm
    obtain ⟨i, hi⟩ := List.mem_iff_getElem?.mp hp'
    obtain ⟨q', hq', r'⟩ := paired_at t hi
    have z := h1 q' (List.mem_of_getElem? hq')
    unfold eqOf at z
    rw [r.2.1, r'.2.1] at z
    exact absurd e.symm (of_decide_eq_false z)
theorem putM_length (es : List (MK × V)) (k : MK) (v : V) : (putM es k v).length ≤ es.length + 1 := by
  unfold putM
  split
  · rw [List.length_map]; exact Nat.le_succ _
  · rw [List.length_append]; exact Nat.le_refl _
theorem mergeM_length : ∀ (prs es : List (MK × V)), (mergeM es prs).length ≤ es.length + prs.length
  | [], es => Nat.le_refl _
  | p :: prs, es => by
    have h1 := mergeM_length prs (putM es p.1 p.2)
    have h2 := putM_length es p.1 p.2
    show (mergeM (putM es p.1 p.2) prs).length ≤ _
    rw [List.length_cons]
    omega
theorem pairs_ofM (I : Inv X pins σ H s) : ∀ {ps : List Addr} {prs : List (MK × V)}, Paired (fun p kv => SqT X.K H p [kv.1.v, kv.2] ∧ kv.1.ok X.K H ∧ kv.1.n.isSome = true) ps prs →
    ∃ qs : List (Value × Value), Paired (PrR s.heap) prs qs ∧ qs.length = ps.length ∧ ∀ (j : Nat) (q : Value × Value), qs[j]? = some q → ∃ b : Addr, ps[j]? = some b ∧ IsTup s.heap b #[q.1, q.2] ∧ KsOf s.heap q.1
  | _, _, .nil => ⟨[], .nil, rfl, fun j q e => by simp at e⟩
  | _, _, .cons (a := p) (b := kv) ⟨h, ok, hn⟩ t => by
    obtain ⟨qs, r, hl, hp⟩ := pairs_ofM I t
    obtain ⟨its, rv, ht, _⟩ := I.tuple h
    obtain ⟨u, y, ei, ru, ry⟩ := vals2 rv
    subst ei
    obtain ⟨k, hk⟩ := Option.isSome_iff_exists.mp hn
    have hnk : nk s.heap u = kv.1.n := (mk_nk I hk ok ru).trans hk.symm
    refine ⟨(u, y) :: qs, .cons ⟨ru, hnk, hn, ry⟩ r, by rw [List.length_cons, List.length_cons, hl], fun j q e => ?_⟩
    cases j with
    | zero =>
      have e' : (u, y) = q := Option.some.inj e
      subst e'
      exact ⟨p, rfl, ht, k, hnk.trans hk⟩
    | succ j =>
      obtain ⟨b, e1, e2, e3⟩ := hp j q (by simpa using e)
      exact ⟨b, by simpa using e1, e2, e3⟩
end
section
variable {X : Cx}
/-- dict(xs) of a list of pairs, keys of several kinds -/
def rDictM (X : Cx) : List V → Hp → VK → Prop := fun xs H Q => ∃ (a : Addr) (ps : List Addr) (prs : List (MK × V)), xs = [.ref a] ∧ SqL X.K H a (ps.map V.ref) ∧ Paired (fun p kv => SqT X.K H p [kv.1.v, kv.2] ∧ kv.1.ok X.K H ∧ kv.1.n.isSome = true) ps prs ∧
    ∀ p, H p = none → Q (.ref p) (upd H p (MxO X.prog X.w p (mergeM [] prs)))
theorem call_dictM (hcalm : X.calm = true) (hu : X.A.units + 3 < cLine) : CallR X (.type "dict") (rDictM X) := by
  intro pins s σ H xs us Q I r q
  obtain ⟨a, ps, prs, ex, hq, hp, q⟩ := q
  subst ex
  obtain ⟨u, eu, rx⟩ := vals1 r
  subst eu
  cases rx
  obtain ⟨its, rv, pl, hz⟩ := I.list hq
  have ei := refs_at rv
  subst ei
  rw [List.length_map] at hz
  obtain ⟨qs, rel, hl, hpr⟩ := pairs_ofM I hp
  obtain ⟨o, n, ho, hc, hd, hdat⟩ := pl
  refine raw_dict (keySys X.prog X.w s.heap) (prs := qs) hu (TupKeep.refl _) (I.ok.hd hcalm) ho hc hd hdat (by simp [hl]) (by rw [hl]; exact hz) (fun j q' e => ?_) fun h' tk hd' k => ?_
  · obtain ⟨b, e1, e2, e3⟩ := hpr j q' e
    exact ⟨b, by simp [e1], e2, e3⟩
  · have hm : (s.heap.objs.size == sysModules) = false := beq_eq_false_iff_ne.mpr (Nat.ne_of_gt I.big)
    have hpl : prs.length = ps.length := by rw [← hl]; exact Paired.length rel
    have hlen : (mergeM [] prs).length ≤ sizeLine := by
      have z := mergeM_length prs []
      rw [List.length_nil, Nat.zero_add, hpl] at z
      exact Nat.le_trans z hz
    obtain ⟨⟨o', ep, ho', hx', hd''⟩, _, hone⟩ := hd'
    have hat : MxAt X.prog X.w h' s.heap.objs.size (mergeM [] prs) := ⟨o', ep, _, ho', hx', hd'', paired_en (paired_merge rel .nil), nodup_pr (paired_merge rel .nil) hone⟩
    exact ⟨.ref s.heap.objs.size, upd H s.heap.objs.size (MxO X.prog X.w s.heap.objs.size (mergeM [] prs)), I.laid (t' := tk) k (Nat.le_refl _) (mxO_ok hat hm hlen), rfl, q _ (I.hok.fresh (Nat.le_refl _))⟩
end
end L2
end
section
set_option Elab.async false
set_option linter.all false
set_option maxRecDepth 100000
set_option maxHeartbeats 4000000
/-! EKM6: such dicts: their keys walked, isinstance -/
namespace L2
open PySem PySem.Spec PyProof.Rows PySem.EK
/-- u is a dict of these entries, at d -/
def DictU (P : Program) (w : World) (d : Addr) (u : HO) (es : List (MK × V)) : Prop := (∃ kvs, u = .dK kvs ∧ es = kvs.map flK) ∨ u = MxO P w d es
theorem DictU.at {P : Program} {w : World} {H : Hp} {h : Heap} {d : Addr} {u : HO} {es : List (MK × V)} (x : DictU P w d u es) (ok : ObjOk P w H h d u) : MxAt P w h d es ∧ (d == sysModules) = false ∧ es.length ≤ sizeLine := by
  rcases x with ⟨kvs, rfl, rfl⟩ | rfl
  · obtain ⟨z, lo, vs, rel, o, es, ep, ho, hx, hd, hk, hp, hn⟩ := (show ObjOk P w H h d (.dK kvs) from ok)
    exact ⟨⟨o, ep, es.toList, ho, hx, by rw [hd], paired_pairs rel hp fun e he => hk e (Array.mem_toList_iff.mp he), nodup_fl (by rw [rel.keys]; exact hn)⟩, lo, by rw [List.length_map]; exact z⟩
  · exact ok.1
section
variable {X : Cx} {pins : List (Addr × Obj)} {σ : St} {H : Hp} {s : Shared} {d : Addr} {o : Obj} {u : HO} {es : List (MK × V)}
theorem Inv.frzX (I : Inv X pins σ H s) (h : H d = some (.frz o u)) (x : DictU X.prog X.w d u es) :
    (d == sysModules) = false ∧ s.heap.get? d = some o ∧ o.ExactDict ∧ ∃ (arr : List DictEntry) (ep : Nat), o.data = .dict arr.toArray ep ∧ arr.length = es.length ∧ Paired (EnR X.prog X.w) es arr := by
  obtain ⟨hd, hu⟩ := (show ObjOk X.prog X.w H s.heap d (.frz o u) from I.hok d _ h)
  obtain ⟨⟨o', ep, arr, ho, hx, hdt, r, _⟩, lo, _⟩ := x.at hu
  rw [hd] at ho
  cases ho
  exact ⟨lo, hd, hx, arr, ep, hdt, (Paired.length r).symm, r⟩
end
/-- the keys of such a dict -/
def Itx (P : Program) (w : World) (d : Addr) (o : Obj) (u : HO) (es : List (MK × V)) : It :=
  ⟨fun i H => H d = some (.frz o u) ∧ DictU P w d u es ∧ i < es.length, fun i H x H' => H' = H ∧ ∃ k v, es[i]? = some (k, v) ∧ x = k.v, fun i H => H d = some (.frz o u) ∧ DictU P w d u es ∧ es.length ≤ i⟩
section
variable {P : Program} {w : World} {K : PySem.W.Frag} {tg : Expr} {d : Addr} {o : Obj} {u : HO} {es : List (MK × V)} {ep : Nat} {arr : Array DictEntry}
theorem turn_keysX (it : Addr) (hod : o.data = .dict arr ep) : Turn P w K tg (Itx P w d o u es) [it] it (fun i h => h.IsKeyIter it d i es.length ep) where
  mem := by simp
  obj := fun i h st b hb => by
    have e : b = it := by simpa using hb
    subst e
    obtain ⟨oi, e, c, dd⟩ := st
    exact ⟨oi, e, fun v z => by rw [dd] at z; cases z⟩
  keep := fun i h h' st k => st.at fun oi e => k it (by simp) oi e
  item := by
    intro X hP hw hK hc i pins s σ H E I hf st hg
    subst hP hw hK
    obtain ⟨hd, hu, hi⟩ := hg
    obtain ⟨f0, f1, f2, f3, f4, f5⟩ := hf it (by simp)
    obtain ⟨hs, hgd, hx, arr', ep', hdt, hsz, ent⟩ := I.frzX hd hu
    obtain ⟨ea, rfl⟩ := dict_ep hod hdt
    obtain ⟨⟨k, v⟩, hkv⟩ : ∃ p, es[i]? = some p := ⟨es[i], List.getElem?_eq_getElem hi⟩
    obtain ⟨en, hen, hkey, _, _⟩ := paired_at ent hkv
    refine next_key_item st hgd hdt (by simpa using hsz) (en := en) (by simpa using hen) fun h' st' sb => ?_
    have I1 : Inv X pins σ H { s with heap := h' } := I.turned (t' := s.toks) (fun b ob hb e => (sb.2 b hb).trans e) f0 f1 f3 f4 f5
    obtain ⟨oi, e, c, dd⟩ := id st'
    exact ⟨en.key, rfl, go_of (s := { s with heap := h' }) e c dd (by decide) ⟨k.v, H, I1, hkey, ⟨rfl, k, v, hkv, rfl⟩, st', fun b hb => (hf b hb).1⟩⟩
  done := by
    intro X hP hw hK hc i pins s σ H E I hf st hg
    subst hP hw hK
    obtain ⟨hd, hu, hi⟩ := hg
    obtain ⟨f0, f1, f2, f3, f4, f5⟩ := hf it (by simp)
    obtain ⟨hs, hgd, hx, arr', ep', hdt, hsz, ent⟩ := I.frzX hd hu
    obtain ⟨ea, rfl⟩ := dict_ep hod hdt
    exact next_key_end (I.ok.hd hc) st hgd hdt (by simpa using hsz) hi fun h' eb => ⟨rfl, I.turned (t' := s.toks) (fun b ob hb e => eb b ob hb e) f0 f1 f3 f4 f5⟩
  self := fun A i s Q E st h => by
    refine wpAny_pyIter_slot st.typeIs F.slot_dict_keyiterator_iter (wpAny_call_entry F.slot_dict_keyiterator_iter st.typeIs F.entry_dict_keyiterator_iter ?_ (F.args_dict_keyiterator_iter_1 _))
    show wpAny _ _ (ret (.ref it)) _ _ s
    exact wpAny_pure ⟨_, rfl, "dict_keyiterator", _, st.typeIs, F.slot_dict_keyiterator_next.lookup, h⟩
end
def iKeysX (P : Program) (w : World) (td : TE) : TI := fun σ H R => td σ H fun x H1 => ∃ d o u es, x = .ref d ∧ H1 d = some (.frz o u) ∧ DictU P w d u es ∧ R (Itx P w d o u es) H1
section
variable {X : Cx} {tg e : Expr} {td : TE}
theorem pi_keysX (he : PE X e td) : PI X tg e (iKeysX X.prog X.w td) := by
  refine ⟨fun pins s σ H R I h => ?_⟩
  refine thn (he.run pins s σ H _ I h) fun v s1 ⟨x, H1, I1, rx, d, o, u, es, ex, hd, hu, q⟩ => ?_
  subst ex
  obtain rfl : v = Value.ref d := rx
  obtain ⟨hs, hgd, hx, arr, ep, hdt, hsz, ent⟩ := I1.frzX hd hu
  refine iter_keys hs hgd hx hdt (pi_one (tk := s1.toks) I1 _ (turn_keysX _ hdt) ⟨_, Heap.get?_push_size _ rfl, rfl, ?_⟩ q)
  rw [show arr.toArray.size = es.length by simpa using hsz] <;> rfl
/-- isinstance(d, c) -/
def rIsD (X : Cx) : List V → Hp → VK → Prop := fun xs H Q => ∃ (a : Addr) (c : V) (u : Value) (b : Bool) (es : List (MK × V)), xs = [.ref a, c] ∧ ClsV c u ∧ DictV X.prog X.w H a es ∧ PySem.W.kitOne X.K (.type "dict") u = some b ∧ Q (.bl b) H
theorem call_isD : CallR X (.builtin "isinstance") (rIsD X) := by
  intro pins s σ H xs us Q I r h
  obtain ⟨a, c, cv, b, es, rfl, k, D, e, q⟩ := h
  obtain ⟨u1, u2, rfl, r1, r2⟩ := vals2 r
  have e2 := k.eq r2
  subst e2
  cases (show u1 = Value.ref a from r1)
  obtain ⟨⟨o, ep, arr, ho, hx, _⟩, _⟩ := D.at I.hok
  exact PySem.W.kia_one PySem.W.kitx_dict I.kIn ⟨o, ho, hx.1⟩ e (fun z => nomatch z) fun tk => ⟨.bl b, H, I.tok tk, rfl, q⟩
end
end L2
end
section
set_option Elab.async false
set_option linter.all false
set_option maxRecDepth 100000
set_option maxHeartbeats 4000000
/-! EKM7: such dicts: len, d[k] -/
namespace L2
open PySem PySem.Spec PyProof.Rows PySem.EK
section
variable {prog : Program} {w : World} {A : Around} {E : Value → Shared → Prop} {s : Shared}
theorem MxAt.typeIs {d : Addr} {es : List (MK × V)} (x : MxAt prog w s.heap d es) : s.TypeIs (.ref d) "dict" := by
  obtain ⟨o, ep, arr, ho, hx, _⟩ := x
  exact ⟨o, ho, hx.1⟩
theorem meets_lenX (d : Addr) (hd : (d == sysModules) = false) :
    MeetsIn prog w (Builtin.«dict.__len__» ⟨[.ref d], []⟩) (fun _ R s => ∃ es, MxAt prog w s.heap d es ∧ R (.ok (.ret (.int es.length s.toks))) { s with toks := s.toks + 1 }) :=
  .of_wp fun A R s ⟨es, hm, h⟩ => by
    obtain ⟨o, ep, arr, ho, hx, hdat, r, _⟩ := hm
    show wpAny _ _ (dictSize d >>= _) _ _ s
    unfold dictSize
    refine wpAny_bind (wpAny_bind (wpAny_dictEntries ho hdat (wpAny_pure ?_)))
    show wpAny _ _ (Builtin.Dict.pendingCount d >>= _) _ _ s
    refine wpAny_bind (wpAny_pendingCount_other hd ?_)
    refine wpAny_ret_mkInt ?_
    rw [Nat.add_zero, show arr.toArray.size = es.length by rw [List.size_toArray]; exact (Paired.length r).symm]; exact h
theorem len_bodyX {d : Addr} {es : List (MK × V)} {Q : Value → Shared → Prop} (hd : (d == sysModules) = false) (hm : MxAt prog w s.heap d es) (hfit : (es.length : Int) < 2 ^ 63)
    (h : Q (.int es.length (s.toks + 1)) { s with toks := s.toks + 1 + 1 }) : wpAny (model prog w) A (Builtin.«len» ⟨[.ref d], []⟩) (fun fin s' => ∃ r, fin = .done (.ret r) ∧ Q r s') E s := by
  unfold Builtin.«len»
  refine wpAny_bind (m := oneArg "len" _) (wpAny_pure ?_)
  refine wpAny_bind (m := callSpecial? (.ref d) (Str.ofString "__len__")) (wpAny_callSpecial?_slot (name := Str.ofString "__len__") hm.typeIs F.slot_dict_len
    (call_meetsIn F.slot_dict_len hm.typeIs F.entry_dict_len (F.args_dict_len_1 _) (meets_lenX d hd) ⟨es, hm, ?_⟩))
  show wpAny _ _ _ _ _ { s with toks := s.toks + 1 }
  refine wpAny_bind (wpAny_holding (wpAny_pure ?_))
  refine wpAny_bind (wpAny_letGo ?_)
  show wpAny _ _ (if ((es.length : Nat) : Int) < 0 then _ else _) _ _ _
  rw [if_neg (by omega)]
  show wpAny _ _ (if ((es.length : Nat) : Int) ≥ 2 ^ 63 then _ else _) _ _ _
  rw [if_neg (by omega)]
  exact wpAny_bind (wpAny_mkInt (wpAny_pure ⟨_, rfl, h⟩))
theorem call_lenRaw {d : Addr} {es : List (MK × V)} {Q : Value → Shared → Prop} (hd : (d == sysModules) = false) (hm : MxAt prog w s.heap d es) (hfit : (es.length : Int) < 2 ^ 63)
    (h : Q (.int es.length (s.toks + 1)) { s with toks := s.toks + 1 + 1 }) : wpAny (model prog w) A (call (.builtin "len") [.ref d]) Q E s :=
  Calls.call_function_entry kind_len plain_len entry_len (args_len1 _) (len_bodyX hd hm hfit h)
end
section
variable {X : Cx}
def rLenX (X : Cx) : List V → Hp → VK → Prop := fun xs H Q => ∃ (a : Addr) (es : List (MK × V)), xs = [.ref a] ∧ DictV X.prog X.w H a es ∧ Q (.int ((es.length : Nat) : Int)) H
theorem call_lenX : CallR X (.builtin "len") (rLenX X) := by
  intro pins s σ H xs us Q I r h
  obtain ⟨p, es, rfl, D, q⟩ := h
  obtain ⟨u, rfl, rx⟩ := vals1 r
  obtain rfl : u = .ref p := rx
  obtain ⟨hm, hd, hz⟩ := D.at I.hok
  refine call_lenRaw hd hm (by rw [sizeLine_eq] at hz; omega) ?_
  exact ⟨.int ((es.length : Nat) : Int), H, I.tok _, ⟨_, rfl⟩, q⟩
/-! ### d[k] -/
def valM (es : List (MK × V)) (n : Option NK) : Option V := (es.find? fun p => decide (p.1.n = n)).map (·.2)
theorem paired_back {h0 : Heap} {P : Program} {w : World} : ∀ {es : List (MK × V)} {arr : List DictEntry}, Paired (EnR P w) es arr → (∀ p ∈ es, ∀ u, RelV p.1.v u → nk h0 u = p.1.n) →
    ∃ vs : List (Value × Value), Paired (PrR h0) es vs ∧ arr = vs.map (enOf (hsOf P w h0))
  | _, _, .nil, _ => ⟨[], .nil, rfl⟩
  | _, _, .cons (a := p) (b := e) ⟨r1, ⟨k, hk, hh⟩, r2⟩ t, hn => by
    obtain ⟨vs, hv, rfl⟩ := paired_back t fun p hp => hn p (List.mem_cons_of_mem _ hp)
    have z := hn p List.mem_cons_self _ r1
    refine ⟨(e.key, e.val) :: vs, .cons ⟨r1, z, by rw [hk]; rfl, r2⟩ hv, ?_⟩
    rw [List.map_cons]
    congr 1
    obtain ⟨eh, ek, ev⟩ := e
    have hh' : eh = hsOf P w h0 ek := by
      have z' : nk h0 ek = some k := z.trans hk
      unfold hsOf
      rw [z']
      exact hh
    show (⟨eh, ek, ev⟩ : DictEntry) = ⟨hsOf P w h0 ek, ek, ev⟩
    rw [hh']
theorem pw_of_nodup {h0 : Heap} : ∀ {es : List (MK × V)} {vs : List (Value × Value)}, Paired (PrR h0) es vs → (es.map (·.1.n)).Nodup → vs.Pairwise (fun p q => eqOf h0 p.1 q.1 = false)
  | _, _, .nil, _ => List.Pairwise.nil
  | _, _, .cons (a := p) (b := q) (l₁ := ps) (l₂ := qs) r t, h => by
    obtain ⟨h1, h2⟩ := List.nodup_cons.mp h
    refine List.pairwise_cons.mpr ⟨fun q' hq' => ?_, pw_of_nodup t h2⟩
    obtain ⟨i, hi⟩ := List.mem_iff_getElem?.mp hq'
    have hl : ps.length = qs.length := Paired.length t
    have hi' : i < ps.length := by rw [hl]; exact (List.getElem?_eq_some_iff.mp hi).1
    obtain ⟨q2, hq2, r'⟩ := paired_at t (List.getElem?_eq_getElem hi')
    rw [hi] at hq2
    cases hq2
    unfold eqOf
    rw [r.2.1, r'.2.1]
    exact decide_eq_false fun z => h1 (List.mem_map.mpr ⟨ps[i], List.getElem_mem hi', z.symm⟩)
theorem val_rel {h0 : Heap} {k : Option NK} {u : Value} (hk : nk h0 u = k) : ∀ {es : List (MK × V)} {vs : List (Value × Value)}, Paired (PrR h0) es vs → RelO (valM es k) (valE (eqOf h0) vs u)
  | _, _, .nil => by simp [valM, valE, RelO]
  | _, _, .cons (a := p) (b := q) r t => by
    have e : eqOf h0 q.1 u = decide (p.1.n = k) := by
      unfold eqOf
      rw [r.2.1, hk]
    unfold valM valE
    rw [List.find?_cons, List.find?_cons, e]
    by_cases c : p.1.n = k
    · rw [decide_eq_true c]
      exact r.2.2.2
    · rw [decide_eq_false c]
      exact val_rel hk t
theorem DictV.raw {pins : List (Addr × Obj)} {σ : L2.St} {H : Hp} {s : Shared} {a : Addr} {es : List (MK × V)} (I : Inv X pins σ H s) (D : DictV X.prog X.w H a es) (ok : ∀ p ∈ es, p.1.ok X.K H ∧ p.1.n.isSome = true) :
    ∃ vs : List (Value × Value), Paired (PrR s.heap) es vs ∧ RawD (KsOf s.heap) (hsOf X.prog X.w s.heap) (eqOf s.heap) s.heap a vs := by
  obtain ⟨⟨o, ep, arr, ho, hx, hd, r, nd⟩, _, _⟩ := D.at I.hok
  obtain ⟨vs, hv, rfl⟩ := paired_back (h0 := s.heap) r fun p hp u ru => by
    obtain ⟨h1, h2⟩ := ok p hp
    obtain ⟨k, hk⟩ := Option.isSome_iff_exists.mp h2
    exact (mk_nk I hk h1 ru).trans hk.symm
  refine ⟨vs, hv, ⟨o, ep, ho, hx, hd⟩, fun q hq => ?_, pw_of_nodup hv nd⟩
  obtain ⟨i, hi⟩ := List.mem_iff_getElem?.mp hq
  have hl : es.length = vs.length := Paired.length hv
  have hi' : i < es.length := by rw [hl]; exact (List.getElem?_eq_some_iff.mp hi).1
  obtain ⟨q2, hq2, r'⟩ := paired_at hv (List.getElem?_eq_getElem hi')
  rw [hi] at hq2
  cases hq2
  obtain ⟨k, hk⟩ := Option.isSome_iff_exists.mp r'.2.2.1
  exact ⟨k, r'.2.1.trans hk⟩
/-- d[k], it is there -/
def tDGetM (X : Cx) (td ty : TE) : TE := fun σ H Q => td σ H fun x H1 => ty σ H1 fun y H2 => ∃ (a : Addr) (es : List (MK × V)) (m : MK) (v : V), x = .ref a ∧ y = m.v ∧ DictV X.prog X.w H2 a es ∧ (∀ p ∈ es, p.1.ok X.K H2 ∧ p.1.n.isSome = true) ∧ m.ok X.K H2 ∧ m.n.isSome = true ∧ valM es m.n = some v ∧ Q v H2
theorem pe_dgetM {o i : Expr} {td ty : TE} {pos : Pos} (hu : X.A.units + 1 < cLine) (ho : PE X o td) (hi : PE X i ty) (hs : NoSl i) : PE X (.Subscript o i pos) (tDGetM X td ty) := by
  refine ⟨fun pins s σ H Q I h => ?_⟩
  refine subD_of PySem.F.slot_dict_getitem.lookup hs (thn (ho.run pins s σ H _ I h) fun u s1 ⟨x, H1, I1, rx, q1⟩ => thn (hi.run pins s1 σ H1 _ I1 q1) fun iv s2 ⟨y, H2, I2, ry, a, es, m, v, ex, ey, D, ok, mo, mn, l, q2⟩ => ?_)
  subst ex
  subst ey
  obtain rfl : u = Value.ref a := rx
  obtain ⟨vs, hv, R⟩ := D.raw I2 ok
  obtain ⟨k, hk⟩ := Option.isSome_iff_exists.mp mn
  have hnk : nk s2.heap iv = m.n := (mk_nk I2 hk mo ry).trans hk.symm
  obtain ⟨w', hw, rw'⟩ := RelO.some_of (v := v) (o := valE (eqOf s2.heap) vs iv) (by rw [← l]; exact val_rel hnk hv)
  refine ⟨R.typeIs, ?_⟩
  unfold getItem
  try with_reducible refine wpAny_holding ?_
  refine wpAny_bind (wpAny_sequenceKey R.typeIs (by decide) ?_)
  refine wpAny_bind (wpAny_callSpecial?_slot (name := Str.ofString "__getitem__") R.typeIs slot_dict_getitem
    (wpAny_call_entry slot_dict_getitem R.typeIs entry_dict_getitem ?_ (args_dict_getitem _ _)))
  show wpAny _ _ (dictGet a iv >>= _) _ _ s2
  refine wpAny_bind (raw_get (keySys X.prog X.w s2.heap) (by show X.A.units + 1 < cLine; exact hu) (TupKeep.refl _) R ⟨k, hnk.trans hk⟩ fun n => ?_)
  rw [hw]
  exact wpAny_pure ⟨w', rfl, wpAny_pure ⟨v, H2, I2.tok _, rw', q2⟩⟩
end
end L2
end
section
set_option Elab.async false
set_option linter.all false
set_option maxRecDepth 100000
set_option maxHeartbeats 4000000
/-! EKM8: data of any kind (dicts of several kinds of keys too): repr -/
namespace L2
open PySem PySem.Spec PyProof.Rows PySem.EK
mutual
inductive DpX (P : Program) (w : World) (K : PySem.W.Frag) (H : Hp) : V → PyData → Prop
  | non : DpX P w K H .non .none
  | bl (b : Bool) : DpX P w K H (.bl b) (.bool b)
  | int (i : Int) : DpX P w K H (.int i) (.int i)
  | str (x : Str) : DpX P w K H (.str x) (.str x)
  | lst {a : Addr} {xs : List V} {ds : List PyData} : SqL K H a xs → DpXAll P w K H xs ds → DpX P w K H (.ref a) (.list ds)
  | tup {a : Addr} {xs : List V} {ds : List PyData} : SqT K H a xs → DpXAll P w K H xs ds → DpX P w K H (.ref a) (.tuple ds)
  | dct {a : Addr} {es : List (MK × V)} {ds : List (PyData × PyData)} : DictV P w H a es → DpXAll P w K H (es.map (·.1.v)) (ds.map (·.1)) → DpXAll P w K H (es.map (·.2)) (ds.map (·.2)) → DpX P w K H (.ref a) (.dict ds)
inductive DpXAll (P : Program) (w : World) (K : PySem.W.Frag) (H : Hp) : List V → List PyData → Prop
  | nil : DpXAll P w K H [] []
  | cons {v : V} {vs : List V} {d : PyData} {ds : List PyData} : DpX P w K H v d → DpXAll P w K H vs ds → DpXAll P w K H (v :: vs) (d :: ds)
end
theorem en_keys {P : Program} {w : World} : ∀ {es : List (MK × V)} {arr : List DictEntry}, Paired (EnR P w) es arr → Vals (es.map (·.1.v)) (arr.map (·.key))
  | _, _, .nil => .nil
  | _, _, .cons r t => .cons r.1 (en_keys t)
theorem en_vals {P : Program} {w : World} : ∀ {es : List (MK × V)} {arr : List DictEntry}, Paired (EnR P w) es arr → Vals (es.map (·.2)) (arr.map (·.val))
  | _, _, .nil => .nil
  | _, _, .cons r t => .cons r.2.2 (en_vals t)
section
variable {X : Cx} {pins : List (Addr × Obj)} {σ : L2.St} {H : Hp} {s : Shared}
mutual
theorem DpX.reads (I : Inv X pins σ H s) (ns : NoSys X.K) : ∀ {v : V} {d : PyData} {u : Value}, DpX X.prog X.w X.K H v d → RelV v u → ∃ as, Reads s.heap u d as ∧ sysModules ∉ as
  | _, _, _, .non, r => by
    cases r
    exact ⟨_, Reads.none, fun z => nomatch z⟩
  | _, _, _, .bl b, r => by
    cases r
    exact ⟨_, Reads.bool b, fun z => nomatch z⟩
  | _, _, _, .int i, r => by
    obtain ⟨t, rfl⟩ := r
    exact ⟨_, Reads.int i t, fun z => nomatch z⟩
  | _, _, _, .str x, r => by
    obtain ⟨t, rfl⟩ := r
    exact ⟨_, Reads.str x t, fun z => nomatch z⟩
  | _, _, _, .lst hs ha, r => by
    cases r
    obtain ⟨its, rv, ⟨o, n, ho, hc, _, hd⟩, _⟩ := I.list hs
    obtain ⟨as, hr, na⟩ := DpXAll.reads I ns ha rv
    refine ⟨_, Reads.list ho hc hd hr, fun z => ?_⟩
    rcases List.mem_cons.mp z with z | z
    · exact ns.ne I.kIn ho hc z.symm
    · exact na z
  | _, _, _, .tup hs ha, r => by
    cases r
    obtain ⟨its, rv, ⟨o, ho, hc, n, hd⟩, _⟩ := I.tuple hs
    obtain ⟨as, hr, na⟩ := DpXAll.reads I ns ha rv
    exact ⟨_, Reads.tuple ho hc hd hr, na⟩
  | _, _, _, .dct (a := a) hd hk ha, r => by
    cases r
    obtain ⟨⟨o, ep, arr, ho, hex, hdat, rel, _⟩, hsys, _⟩ := hd.at I.hok
    obtain ⟨as, h1, n1⟩ := DpXAll.reads I ns hk (en_keys rel)
    obtain ⟨bs, hr, na⟩ := DpXAll.reads I ns ha (en_vals rel)
    refine ⟨_, Reads.dict ho hex.1 hdat h1 hr, fun z => ?_⟩
    rcases List.mem_append.mp z with z | z
    · rcases List.mem_cons.mp z with z | z
      · rw [← z] at hsys
        exact absurd hsys (by decide)
      · exact n1 z
    · exact na z
theorem DpXAll.reads (I : Inv X pins σ H s) (ns : NoSys X.K) : ∀ {vs : List V} {ds : List PyData} {us : List Value}, DpXAll X.prog X.w X.K H vs ds → Vals vs us → ∃ as, ReadsAll s.heap us ds as ∧ sysModules ∉ as
  | _, _, _, .nil, r => by
    cases r
    exact ⟨_, ReadsAll.nil, fun z => nomatch z⟩
  | _, _, _, .cons h1 h2, .cons r1 r2 => by
    obtain ⟨as, q1, n1⟩ := DpX.reads I ns h1 r1
    obtain ⟨bs, q2, n2⟩ := DpXAll.reads I ns h2 r2
    refine ⟨_, ReadsAll.cons q1 q2, fun z => ?_⟩
    rcases List.mem_append.mp z with z | z
    · exact n1 z
    · exact n2 z
end
def rReprX (X : Cx) : List V → Hp → VK → Prop := fun xs H Q => ∃ (a : Addr) (d : PyData), xs = [.ref a] ∧ DpX X.prog X.w X.K H (.ref a) d ∧ d.showable = true ∧ d.depth ≤ 60 ∧ d.shown.length ≤ sizeLine ∧ Q (.str d.shown) H
theorem call_reprX {k : Nat} (hg : X.A.guards = some []) (hr : Room k X.A) (ns : NoSys X.K) : CallR X (.builtin "repr") (rReprX X) := by
  intro pins s σ H xs us Q I r h
  obtain ⟨a, d, rfl, hd, hs, hdep, hlen, q⟩ := h
  cases r with
  | cons r1 r2 =>
    cases r2
    obtain ⟨as, rd, na⟩ := DpX.reads I ns hd r1
    cases (show _ = Value.ref a from r1)
    refine repr_of_reads' rd hs (fun _ => na) hg (by have := hr.un; omega) (fun b o e => e) (fun h' u tk keep => ?_) hlen
    exact ⟨.str d.shown, H, I.un (t' := tk) (Un.kept keep) (I.hok.kept keep), ⟨u, rfl⟩, q⟩
end
end L2
end
section
set_option Elab.async false
set_option linter.all false
set_option maxRecDepth 100000
set_option maxHeartbeats 4000000
/-! EKM9: list(d.items()) of a dict whose keys are None, True, ints but 0 and 1, texts -/
namespace L2
open PySem PySem.Spec PyProof.Rows PySem.EK
inductive K4 where
  | n | t | i (k : Int) | s (x : Str)
  deriving DecidableEq
def K4.v : K4 → V
  | .n => .non
  | .t => .bl true
  | .i k => .int k
  | .s x => .str x
def k4Is : K4 → Value → Bool
  | .n, .none => true
  | .t, .bool b => b
  | .i k, .int j _ => decide (k = j) && (decide (k ≠ 0) && decide (k ≠ 1))
  | .s x, .str y _ => decide (x = y)
  | _, _ => false
theorem k4_shape {k : K4} {v : Value} (h : k4Is k v = true) : (k = .n ∧ v = .none) ∨ (k = .t ∧ v = .bool true) ∨ (∃ i u, k = .i i ∧ v = .int i u ∧ i ≠ 0 ∧ i ≠ 1) ∨ ∃ x u, k = .s x ∧ v = .str x u := by
  cases k with
  | n =>
    cases v with
    | none => exact .inl ⟨rfl, rfl⟩
    | _ => cases h
  | t =>
    cases v with
    | bool b =>
      have e : b = true := h
      subst e
      exact .inr (.inl ⟨rfl, rfl⟩)
    | _ => cases h
  | i k =>
    cases v with
    | int j u =>
      have h' : (decide (k = j) && (decide (k ≠ 0) && decide (k ≠ 1))) = true := h
      simp only [Bool.and_eq_true, decide_eq_true_eq] at h'
      obtain ⟨rfl, h1, h2⟩ := h'
      exact .inr (.inr (.inl ⟨_, u, rfl, rfl, h1, h2⟩))
    | _ => cases h
  | s x =>
    cases v with
    | str y u =>
      have h' : x = y := of_decide_eq_true h
      subst h'
      exact .inr (.inr (.inr ⟨_, u, rfl, rfl⟩))
    | _ => cases h
def k4Hash (w : World) : K4 → Int
  | .n => reduceHash 0xFCA86420
  | .t => hashInt 1
  | .i k => hashInt k
  | .s x => hashStr w x
def k4Kind (prog : Program) (w : World) : PySem.KeyKind prog w K4 where
  is := k4Is
  hash := k4Hash w
  inj := fun v a b ha hb => by
    rcases k4_shape ha with ⟨rfl, rfl⟩ | ⟨rfl, rfl⟩ | ⟨i, u, rfl, rfl, _, _⟩ | ⟨x, u, rfl, rfl⟩ <;>
    rcases k4_shape hb with ⟨rfl, e⟩ | ⟨rfl, e⟩ | ⟨j, u', rfl, e, _, _⟩ | ⟨y, u', rfl, e⟩ <;> first | rfl | (cases e; rfl) | cases e
  byValue := fun k v h => by
    rcases k4_shape h with ⟨rfl, rfl⟩ | ⟨rfl, rfl⟩ | ⟨i, u, rfl, rfl, _, _⟩ | ⟨x, u, rfl, rfl⟩ <;> rfl
  pyHash := @fun A E s k v Q hv h => by
    rcases k4_shape hv with ⟨rfl, rfl⟩ | ⟨rfl, rfl⟩ | ⟨i, u, rfl, rfl, _, _⟩ | ⟨x, u, rfl, rfl⟩
    · exact PySem.W.pyHash_slot (T := "NoneType") rfl PySem.F.slot_NoneType_hash PySem.F.entry_NoneType_hash (PySem.F.args_NoneType_hash_1 _) (beq_builtin_none _) (.inl rfl) (wpAny_bind (wpAny_pure (wpAny_bind (wpAny_mkInt (wpAny_pure ⟨_, _, rfl, h⟩)))))
    · exact PpSet.pyHash_bool h
    · exact wpAny_pyHash_int h
    · exact wpAny_pyHash_str h
  eqBool := @fun A E s a b u v Q hu hv h => by
    have F : ∀ {p q : Value} {r : Bool}, SeqAt.EqAt A s p q r → r = decide (a = b) → wpAny (model prog w) A (PySem.eqBool p q) Q E s := fun {p q r} e er => e prog w E Q (by rw [er]; exact h)
    rcases k4_shape hu with ⟨rfl, rfl⟩ | ⟨rfl, rfl⟩ | ⟨i, t1, rfl, rfl, i0, i1⟩ | ⟨x, t1, rfl, rfl⟩ <;>
    rcases k4_shape hv with ⟨rfl, rfl⟩ | ⟨rfl, rfl⟩ | ⟨j, t2, rfl, rfl, j0, j1⟩ | ⟨y, t2, rfl, rfl⟩
    · exact F (SeqAt.EqAt.same _) (by simp)
    · exact F (SeqAt.EqAt.none_bool _) (by simp)
    · exact F (SeqAt.EqAt.none_int _ _) (by simp)
    · exact F (SeqAt.EqAt.none_str _ _) (by simp)
    · exact F (SeqAt.EqAt.bool_none _) (by simp)
    · exact F (SeqAt.EqAt.bool_bool _ _) (by simp)
    · exact F (SeqAt.EqAt.bool_int true j t2) (by have z : ¬ (1 : Int) = j := fun z => j1 z.symm; simp [z])
    · exact F (SeqAt.EqAt.bool_str _ _ _) (by simp)
    · exact F (SeqAt.EqAt.int_none _ _) (by simp)
    · exact F (SeqAt.EqAt.int_bool i t1 true) (by simp [i1])
    · exact F (SeqAt.EqAt.int_int i t1 j t2) (by by_cases z : i = j <;> simp [z])
    · exact F (SeqAt.EqAt.int_str _ _ _ _) (by simp)
    · exact F (SeqAt.EqAt.str_none _ _) (by simp)
    · exact F (SeqAt.EqAt.str_bool _ _ _) (by simp)
    · exact F (SeqAt.EqAt.str_int _ _ _ _) (by simp)
    · exact F (SeqAt.EqAt.str_str x t1 y t2) (by by_cases z : x = y <;> simp [z])
  «strs» := fun k x t v h => by
    rcases k4_shape h with ⟨rfl, e⟩ | ⟨rfl, e⟩ | ⟨i, u, rfl, e, _, _⟩ | ⟨y, u, rfl, e⟩
    · cases e
    · cases e
    · cases e
    · cases e
      cases v with
      | str z u =>
        show decide (x = z) = (Value.str z u).isStr x
        by_cases q : x = z
        · subst q
          simp [Value.isStr]
        · have q' : ¬ z = x := fun r => q r.symm
          simp [Value.isStr, q, q']
      | _ => rfl
end L2
end
section
set_option Elab.async false
set_option linter.all false
set_option maxRecDepth 100000
set_option maxHeartbeats 4000000
/-! EKM10: list(d.items()) of such a dict -/
namespace L2
open PySem PySem.Spec PyProof.Rows PySem.EK LiI
def K4.good : K4 → Bool
  | .i k => decide (k ≠ 0) && decide (k ≠ 1)
  | _ => true
def flX (p : K4 × V) : MK × V := (.fl p.1.v, p.2)
theorem k4_of {k : K4} {u : Value} (g : k.good = true) (r : RelV k.v u) : k4Is k u = true := by
  cases k with
  | n => cases (show u = Value.none from r); rfl
  | t => cases (show u = Value.bool true from r); rfl
  | i k =>
    obtain ⟨t, rfl⟩ := (show ∃ t, u = Value.int k t from r)
    have g' : (decide (k ≠ 0) && decide (k ≠ 1)) = true := g
    show (decide (k = k) && (decide (k ≠ 0) && decide (k ≠ 1))) = true
    rw [g', decide_eq_true rfl]
    rfl
  | s x =>
    obtain ⟨t, rfl⟩ := (show ∃ t, u = Value.str x t from r)
    exact decide_eq_true rfl
theorem k4_rel {k : K4} {u : Value} (h : k4Is k u = true) : RelV k.v u := by
  rcases k4_shape h with ⟨rfl, rfl⟩ | ⟨rfl, rfl⟩ | ⟨i, t, rfl, rfl, _, _⟩ | ⟨x, t, rfl, rfl⟩
  · rfl
  · rfl
  · exact ⟨t, rfl⟩
  · exact ⟨t, rfl⟩
theorem k4_hash {P : Program} {w : World} {k : K4} {n : NK} (h : (MK.fl k.v).n = some n) : nkHash P w n = k4Hash w k := by
  cases k <;> cases h <;> rfl
theorem k4_pairs {P : Program} {w : World} : ∀ {es : List (K4 × V)} {arr : List DictEntry}, Paired (EnR P w) (es.map flX) arr → (∀ p ∈ es, p.1.good = true) →
    ∃ vs : List (K4 × Value), KV es vs ∧ Pairs (k4Kind P w) arr vs ∧ ∀ e ∈ arr, ∃ k, (k4Kind P w).is k e.key = true ∧ e.hash = (k4Kind P w).hash k
  | [], _, .nil, _ => ⟨[], .nil, .nil, fun e he => (nomatch he)⟩
  | p :: es, _, .cons (b := e) ⟨r1, ⟨n, hn, hh⟩, r2⟩ t, hg => by
    obtain ⟨vs, h1, h2, h3⟩ := k4_pairs t fun q hq => hg q (List.mem_cons_of_mem _ hq)
    have hk : k4Is p.1 e.key = true := k4_of (hg p List.mem_cons_self) r1
    refine ⟨(p.1, e.val) :: vs, .cons ⟨rfl, r2⟩ h1, .cons hk rfl h2, fun e' he' => ?_⟩
    rcases List.mem_cons.mp he' with rfl | he'
    · exact ⟨p.1, hk, hh.trans (k4_hash hn)⟩
    · exact h3 e' he'
def putX : Hp → List Addr → List (K4 × V) → Hp
  | H, a :: as, p :: kvs => putX (upd H a (.tup [p.1.v, p.2])) as kvs
  | H, _, _ => H
theorem putX_off {b : Addr} : ∀ (as : List Addr) (kvs : List (K4 × V)) (H : Hp), b ∉ as → putX H as kvs b = H b
  | [], _, _, _ => rfl
  | _ :: _, [], _, _ => rfl
  | a :: as, p :: kvs, H, h => by
    show putX (upd H a (.tup [p.1.v, p.2])) as kvs b = H b
    rw [putX_off as kvs _ (fun z => h (List.mem_cons_of_mem _ z)), upd_ne (fun z => h (by rw [z]; exact List.mem_cons_self))]
theorem putX_at : ∀ (as : List Addr) (kvs : List (K4 × V)) (H : Hp), as.length = kvs.length → as.Nodup → Paired (fun (t : Addr) (p : K4 × V) => putX H as kvs t = some (.tup [p.1.v, p.2])) as kvs
  | [], [], _, _, _ => .nil
  | [], _ :: _, _, h, _ => by cases h
  | _ :: _, [], _, h, _ => by cases h
  | a :: as, p :: kvs, H, h, hn => by
    have hn' := List.nodup_cons.mp hn
    have ih := putX_at as kvs (upd H a (.tup [p.1.v, p.2])) (Nat.succ.inj h) hn'.2
    refine .cons ?_ ih
    show putX (upd H a (.tup [p.1.v, p.2])) as kvs a = some (.tup [p.1.v, p.2])
    rw [putX_off as kvs _ hn'.1, upd_same]
def rItemsX (X : Cx) : V → Hp → VK → Prop := fun x H Q => ∃ (d : Addr) (kvs : List (K4 × V)), x = .ref d ∧ DictV X.prog X.w H d (kvs.map flX) ∧ (∀ p ∈ kvs, p.1.good = true) ∧
  ∀ (H' : Hp) (p : Addr) (ts : List Addr), (∀ b o, H b = some o → H' b = some o) → H p = none → (∀ t ∈ ts, H t = none) → p ∉ ts → H' p = some (.lst (ts.map V.ref)) → Paired (fun (t : Addr) (q : K4 × V) => H' t = some (.tup [q.1.v, q.2])) ts kvs → Q (.ref p) H'
section
variable {X : Cx} {e : Expr} {te : TE} {p apos cpos pos : Pos}
theorem items_laidX {pins : List (Addr × Obj)} {σ : L2.St} {H : Hp} {s : Shared} {h' : Heap} {tk : Nat} {kvs : List (K4 × V)} {vs : List (K4 × Value)} {acc : Array Value} {c : Nat} {as : List Addr} (I : Inv X pins σ H s) (hz : kvs.length ≤ sizeLine) (kv : KV kvs vs)
    (hk : ∀ b o, s.heap.get? b = some o → h'.get? b = some o) (hS : h'.get? s.heap.objs.size = some { cls := .type "list", dict := none, data := .seq acc c, slots := #[] }) (hl : as.length = vs.length) (hG : PySem.W.KdxG (k4Kind X.prog X.w) vs s.heap.objs.size h' as) (hacc : acc.toList = as.map Value.ref) :
    ∃ H' : Hp, (∀ b o, H b = some o → H' b = some o) ∧ H s.heap.objs.size = none ∧ (∀ t ∈ as, H t = none) ∧ s.heap.objs.size ∉ as ∧ H' s.heap.objs.size = some (.lst (as.map V.ref)) ∧ Paired (fun (t : Addr) (q : K4 × V) => H' t = some (.tup [q.1.v, q.2])) as kvs ∧ Inv X pins σ H' { s with heap := h', toks := tk } := by
  have lk : kvs.length = vs.length := Paired.length kv
  have hSn : s.heap.objs.size ∉ as := fun z => Nat.lt_irrefl _ (hG.above _ z)
  have nd : as.Nodup := List.Pairwise.imp (fun {a b} (h : a < b) => Nat.ne_of_lt h) hG.rise
  have new : ∀ t ∈ as, H t = none := fun t ht => I.hok.fresh (Nat.le_of_lt (hG.above t ht))
  have newS : H s.heap.objs.size = none := I.hok.fresh (Nat.le_refl _)
  have atP := putX_at as kvs (upd H s.heap.objs.size (.lst (as.map V.ref))) (by omega) nd
  have off : ∀ b, b ∉ as → b ≠ s.heap.objs.size → putX (upd H s.heap.objs.size (.lst (as.map V.ref))) as kvs b = H b := fun b h1 h2 => by rw [putX_off as kvs _ h1, upd_ne h2]
  have low : ∀ b o, s.heap.get? b = some o → b ∉ as ∧ b ≠ s.heap.objs.size := fun b o e => ⟨fun z => absurd (Heap.lt_size e) (Nat.not_lt.mpr (Nat.le_of_lt (hG.above b z))), Nat.ne_of_lt (Heap.lt_size e)⟩
  have kp : ∀ b u, H b = some u → (putX (upd H s.heap.objs.size (.lst (as.map V.ref))) as kvs) b = some u := fun b u e => by
    rw [off b (fun z => by rw [new b z] at e; cases e) (fun z => by rw [z, newS] at e; cases e)]
    exact e
  have eS : putX (upd H s.heap.objs.size (.lst (as.map V.ref))) as kvs s.heap.objs.size = some (.lst (as.map V.ref)) := by rw [putX_off as kvs _ hSn, upd_same]
  refine ⟨putX (upd H s.heap.objs.size (.lst (as.map V.ref))) as kvs, kp, newS, new, hSn, eS, atP, ?_⟩
  refine I.call' (ch := []) rfl ⟨fun b o q _ _ _ => hk b o q, fun b o q _ _ _ => ⟨o.slots, hk b o q⟩, fun b o q n _ => ?_, fun b o q _ => ⟨o, hk b o q⟩, fun b xs q => kp b _ q, fun b o u q => kp b _ q, fun b ps q => ⟨#[], by rw [kp b _ q]; simp⟩⟩ (fun b u q => ?_) I.bare fun b z => by simp at z
  · obtain ⟨z1, z2⟩ := low b o q
    rw [off b z1 z2]
    exact n
  · by_cases hb : b ∈ as
    · obtain ⟨j, pk, e1, e2, e3⟩ := paired_ix atP hb
      rw [e3] at q
      cases q
      obtain ⟨key, k, x, f1, f2, f3⟩ := hG.pairs j b e1
      obtain ⟨qv, g1, g2, g3⟩ := paired_get kv e2
      rw [f1] at g1
      cases g1
      have rk : RelV pk.1.v key := by
        rw [g2]
        exact k4_rel (show k4Is k key = true from f2)
      exact ⟨by show 2 ≤ sizeLine; decide, [key, x], .cons rk (.cons g3 .nil), ⟨_, f3, rfl, _, rfl⟩⟩
    · by_cases hb2 : b = s.heap.objs.size
      · rw [hb2] at q ⊢
        rw [eS] at q
        cases q
        refine ⟨by rw [List.length_map]; omega, acc.toList, c, by rw [hacc]; exact vals_refs as, ?_⟩
        rw [Array.toArray_toList]
        exact hS
      · rw [off b hb hb2] at q
        exact (I.hok b u q).stay (fun d v _ y => hk d v y) (fun d y => kp d _ y) fun d xs y => kp d _ y
theorem pe_listItemsX (hc : X.calm = true) (he : PE X e te) (hg : Gl X "list") (hm : X.mg "list" = none) (hv : bootBuiltins "list" = some (.type "list")) (hbase : attributeBase e "items" X.env (eval e X.env) = eval e X.env := by rfl) (hline : (apos.endLine == cpos.line) = true := by rfl)
    (hs : starEach [.Call (.Attribute e "items" apos) [] [] cpos] X.env = (false, eval (.Call (.Attribute e "items" apos) [] [] cpos) X.env) :: starEach [] X.env := by rfl) :
    PE X (.Call (.Name "list" p) [.Call (.Attribute e "items" apos) [] [] cpos] [] pos) (fun σ H Q => te σ H fun x H1 => rItemsX X x H1 Q) := by
  refine ⟨fun pins s σ H Q I hq => ?_⟩
  refine wpAny_Call_Name_kw (ld_blt I hg hm hv ?_)
  refine PyProof.Rows.callWith_type1 ?_ hs rfl
  rw [hs]
  show wpAny _ _ (spliced ((false, eval (.Call (.Attribute e "items" apos) [] [] cpos) X.env) :: backTo pos (starEach [] X.env))) _ _ s
  refine Calls.spliced_cons ?_
  refine wpAny_Call_method (T := "dict") (id := "dict.items") hbase rfl hline F.plainAttrs_dict F.slot_dict_items F.type_dict_items (thn (he.run pins s σ H _ I hq) fun u s1 ⟨x, H1, I1, rx, d, kvs, ex, hd, good, q⟩ => ?_)
  subst ex
  obtain rfl : u = Value.ref d := rx
  obtain ⟨⟨o, ep, arr, ho, hx, hdt, rel, hnd⟩, hs0, hz⟩ := hd.at I1.hok
  rw [List.length_map] at hz
  obtain ⟨vs, kv, hp, hkeys⟩ := k4_pairs rel good
  have lk : kvs.length = vs.length := Paired.length kv
  have nd : (vs.map (·.1)).Nodup := by
    rw [← kv.keys]
    have e : (kvs.map flX).map (·.1.n) = (kvs.map (·.1)).map (fun k => (MK.fl k.v).n) := by
      rw [List.map_map, List.map_map]
      rfl
    rw [e] at hnd
    exact (List.pairwise_map.mp hnd).imp fun {a b} z q => z (by rw [q])
  have hat : s1.heap.DictAt (k4Kind X.prog X.w) d vs ep := ⟨o, arr.toArray, ho, hx, hdt, fun e he => hkeys e (by simpa using he), by simpa using hp, nd⟩
  have hdo := hat.dictOf
  have I2 : Inv X pins σ H1 { s1 with heap := s1.heap.push { cls := .type "dict_items", data := .fields #[.ref d] } } := I1.kept (t' := s1.toks) fun b ob q => Heap.get?_push_of_some _ q
  refine ⟨hdo.typeIs, hdo.mapOf.noDict, ?_⟩
  show wpAny _ _ (callWith cpos (.builtin "dict.items") [.ref d] [] []) _ X.xe s1
  refine method_meetsIn F.slot_dict_items F.entry_dict_items rfl (PySem.evalArgs_none ⟨rfl, hdo.typeIs, F.args_dict_items_1 _, _, meets_dict_items (k4Kind X.prog X.w) d hs0, ⟨vs, hdo⟩, ?_⟩)
  refine Calls.spliced_nil ?_
  refine PySem.W.kdx_call (knd := k4Kind X.prog X.w) (kvs := vs) (ep := ep) (I1.ok.hd hc) ⟨_, Heap.get?_push_size _ rfl, rfl, rfl⟩ (hat.push _) (by omega) fun h' tk acc c as hk hS hl hG hacc => ?_
  obtain ⟨H', k1, k2, k3, k4, k5, k6, J⟩ := items_laidX (tk := tk) I2 hz kv hk hS hl hG hacc
  exact ⟨.ref _, H', J, rfl, q H' _ as k1 k2 k3 k4 k5 k6⟩
end
end L2
end
section
set_option Elab.async false
set_option linter.all false
set_option maxRecDepth 100000
set_option maxHeartbeats 4000000
/-! EKM11: a dict is no text -/
namespace PySem.SeqAt
open Sem (wp)
open AutoSeq1 (wpAny_loadPart')
theorem dict_eq_declines_str (l : Addr) (es : Array DictEntry) (n : Nat) (dd : Option Addr) (sl : Array (Option Value)) (b : Str) (u : Tok) :
    Meets (Builtin.«dict.__eq__» ⟨[.ref l, .str b u], []⟩) (fun _ R s => s.heap.get? l = some { cls := .type "dict", dict := dd, data := .dict es n, slots := sl } ∧ R (.ok (.ret .notImplemented)) s) :=
  .of_wp fun prog w A R s h => by obtain ⟨hp, g, d, tk, os⟩ := s; obtain ⟨hl, h⟩ := h; have f1 := F.sub_str_dict; wp_walk using wpAny_loadPart' hl, wpAny_load hl; exact ⟨_, rfl, h⟩
theorem str_eq_declines_dict (b : Str) (u : Tok) (l : Addr) (c : Value) (es : Array DictEntry) (n : Nat) (dd : Option Addr) (sl : Array (Option Value)) :
    Meets (Builtin.«str.__eq__» ⟨[.str b u, .ref l], []⟩) (fun _ R s => s.heap.get? l = some { cls := c, dict := dd, data := .dict es n, slots := sl } ∧ R (.ok (.ret .notImplemented)) s) :=
  .of_wp fun prog w A R s h => by obtain ⟨hp, g, d, tk, os⟩ := s; obtain ⟨hl, h⟩ := h; wp_walk using wpAny_loadPart' hl, wpAny_load hl; exact ⟨_, rfl, h⟩
section
variable {A : Around} {s : Shared}
theorem RcAt.dict_str {l : Addr} {es : Array DictEntry} {n : Nat} {dd : Option Addr} {sl : Array (Option Value)} (b : Str) (u : Tok) (ho : s.heap.get? l = some { cls := .type "dict", dict := dd, data := .dict es n, slots := sl }) (hu : A.units < cLine) : RcAt A s (.ref l) (.str b u) false := fun prog w E Q h => by
  exact rc_eq_decline_or (k := false) ⟨_, ho, rfl⟩ (typeIs_str s b u) (by decide) F.sub_str_dict F.slot_dict_eq F.slot_str_eq_refl
    (fun _ hq => call_meets F.slot_dict_eq ⟨_, ho, rfl⟩ F.entry_dict_eq (F.args_dict_eq_2 _ _) (dict_eq_declines_str l es n dd sl b u) ⟨ho, hq⟩)
    (fun _ hq => call_meets F.slot_str_eq_refl (typeIs_str s b u) F.entry_str_eq (F.args_str_eq_2 _ _) (str_eq_declines_dict b u l (.type "dict") es n dd sl) ⟨ho, hq⟩)
    (fun _ hq => wpAny_of_eq (rfl : isSame (.ref l) (.str b u) = pure false) hq) (.inr hu) h
theorem EqAt.dict_str {l : Addr} {es : Array DictEntry} {n : Nat} {dd : Option Addr} {sl : Array (Option Value)} (b : Str) (u : Tok) (ho : s.heap.get? l = some { cls := .type "dict", dict := dd, data := .dict es n, slots := sl }) (hu : A.units < cLine) : EqAt A s (.ref l) (.str b u) false := fun prog w E Q h => by
  unfold eqBool
  refine wpAny_holding ?_
  refine wpAny_ite_split (fun hab => absurd (eq_of_beq hab) nofun) (fun _ => ?_)
  exact wpAny_bind (RcAt.dict_str b u ho hu prog w E _ (wpAny_truthy_bool h))
end
end PySem.SeqAt
end
section
set_option Elab.async false
set_option linter.all false
set_option maxRecDepth 100000
set_option maxHeartbeats 4000000
/-! EKM12: a text in a list of any data -/
namespace L2
open PySem PySem.Spec PyProof.Rows PySem.EK
def hasS (z : Str) (xs : List V) : Bool := xs.any fun v => decide (v = .str z)
section
variable {X : Cx}
theorem eqAt_data {A : Around} {pins : List (Addr × Obj)} {σ : L2.St} {H : Hp} {s : Shared} (I : Inv X pins σ H s) (hu : A.units < cLine) {z : Str} {t : Tok} {v : V} {d : PyData} {u : Value} (D : DpX X.prog X.w X.K H v d) (r : RelV v u) : SeqAt.EqAt A s u (.str z t) (eqU (.str z) u) ∧ eqU (.str z) u = decide (v = .str z) := by
  have flat : flatV v = true → SeqAt.EqAt A s u (.str z t) (eqU (.str z) u) ∧ eqU (.str z) u = decide (v = .str z) := fun f => by
    rw [eqU_of r f]
    refine ⟨eqAt_V r (show RelV (.str z) (.str z t) from ⟨t, rfl⟩) f rfl, ?_⟩
    cases v with
    | str y =>
      show decide (y = z) = _
      by_cases q : y = z <;> simp [q]
    | non => rfl
    | bl b => rfl
    | int i => rfl
    | _ => cases f
  cases D with
  | non => exact flat rfl
  | bl b => exact flat rfl
  | int i => exact flat rfl
  | str x => exact flat rfl
  | lst hs ha =>
    cases r
    obtain ⟨its, rv, pl, _⟩ := I.list hs
    exact ⟨SeqAt.EqAt.list_str z t pl.isList hu, by simp [eqU]⟩
  | tup hs ha =>
    cases r
    obtain ⟨its, rv, pl, _⟩ := I.tuple hs
    exact ⟨SeqAt.EqAt.tuple_str z t pl hu, by simp [eqU]⟩
  | dct hd hk ha =>
    cases r
    obtain ⟨⟨o, ep, arr, ho, hx, hdt, _⟩, _⟩ := hd.at I.hok
    obtain ⟨oc, od, odt, osl⟩ := o
    obtain ⟨h1, h2, h3⟩ := hx
    dsimp only at h1 h2 h3 hdt
    subst h1 h2 h3 hdt
    exact ⟨SeqAt.EqAt.dict_str z t ho hu, by simp [eqU]⟩
theorem mem_data {A : Around} {pins : List (Addr × Obj)} {σ : L2.St} {H : Hp} {s : Shared} (I : Inv X pins σ H s) (hu : A.units < cLine) {z : Str} {t : Tok} : ∀ {xs : List V} {ds : List PyData} {us : List Value}, DpXAll X.prog X.w X.K H xs ds → Vals xs us →
    (∀ u ∈ us, SeqAt.EqAt A s u (.str z t) (eqU (.str z) u)) ∧ us.any (eqU (.str z)) = hasS z xs
  | _, _, _, .nil, .nil => ⟨fun u h => (nomatch h), rfl⟩
  | _, _, _, .cons D DA, .cons r rs => by
    obtain ⟨h1, h2⟩ := eqAt_data (z := z) (t := t) I hu D r
    obtain ⟨h3, h4⟩ := mem_data I hu (z := z) (t := t) DA rs
    refine ⟨fun u hm => ?_, ?_⟩
    · rcases List.mem_cons.mp hm with rfl | hm
      · exact h1
      · exact h3 u hm
    · rw [List.any_cons, h2, h4]
      rfl
def rInS (X : Cx) (neg : Bool) : R2 := fun x y H Q => ∃ (z : Str) (p : Addr) (xs : List V) (ds : List PyData), x = .str z ∧ y = .ref p ∧ (SqL X.K H p xs ∨ SqT X.K H p xs) ∧ DpXAll X.prog X.w X.K H xs ds ∧ Q (.bl (if neg then !hasS z xs else hasS z xs)) H
theorem op_inS (hu : X.A.units + 5 < cLine) : OpR X (compareOp .In) (rInS X false) := by
  intro pins s σ H x y v u Q I rx ry h
  obtain ⟨z, p, xs, ds, rfl, rfl, hq, D, q⟩ := h
  cases ry
  obtain ⟨t, rfl⟩ := (show ∃ t, v = Value.str z t from rx)
  rcases hq with hq | hq
  · obtain ⟨its, r, pl, hz⟩ := I.list hq
    refine SeqAt.in_listAt (eqU (.str z)) pl.isList (fun w hw => (mem_data I (by first | (show X.A.units < cLine; omega) | (show X.A.units + 1 < cLine; omega) | (show X.A.units + 1 + 1 < cLine; omega)) D r).1 w (by simpa using hw)) ⟨.bl _, H, I, rfl, ?_⟩
    rw [show its.toArray.any (eqU (.str z)) = its.any (eqU (.str z)) by simp, (mem_data (A := X.A) (t := t) I (by omega) D r).2]
    exact q
  · obtain ⟨its, r, pl, hz⟩ := I.tuple hq
    refine SeqAt.in_tupleAt (eqU (.str z)) pl (fun w hw => (mem_data I (by first | (show X.A.units < cLine; omega) | (show X.A.units + 1 < cLine; omega) | (show X.A.units + 1 + 1 < cLine; omega)) D r).1 w (by simpa using hw)) ⟨.bl _, H, I, rfl, ?_⟩
    rw [show its.toArray.any (eqU (.str z)) = its.any (eqU (.str z)) by simp, (mem_data (A := X.A) (t := t) I (by omega) D r).2]
    exact q
theorem op_notInS (hu : X.A.units + 5 < cLine) : OpR X (compareOp .NotIn) (rInS X true) := by
  intro pins s σ H x y v u Q I rx ry h
  obtain ⟨z, p, xs, ds, rfl, rfl, hq, D, q⟩ := h
  cases ry
  obtain ⟨t, rfl⟩ := (show ∃ t, v = Value.str z t from rx)
  rcases hq with hq | hq
  · obtain ⟨its, r, pl, hz⟩ := I.list hq
    refine SeqAt.notIn_listAt (eqU (.str z)) pl.isList (fun w hw => (mem_data I (by first | (show X.A.units < cLine; omega) | (show X.A.units + 1 < cLine; omega) | (show X.A.units + 1 + 1 < cLine; omega)) D r).1 w (by simpa using hw)) ⟨.bl _, H, I, rfl, ?_⟩
    rw [show its.toArray.any (eqU (.str z)) = its.any (eqU (.str z)) by simp, (mem_data (A := X.A) (t := t) I (by omega) D r).2]
    exact q
  · obtain ⟨its, r, pl, hz⟩ := I.tuple hq
    refine SeqAt.notIn_tupleAt (eqU (.str z)) pl (fun w hw => (mem_data I (by first | (show X.A.units < cLine; omega) | (show X.A.units + 1 < cLine; omega) | (show X.A.units + 1 + 1 < cLine; omega)) D r).1 w (by simpa using hw)) ⟨.bl _, H, I, rfl, ?_⟩
    rw [show its.toArray.any (eqU (.str z)) = its.any (eqU (.str z)) by simp, (mem_data (A := X.A) (t := t) I (by omega) D r).2]
    exact q
end
end L2
end
section
set_option Elab.async false
set_option linter.all false
set_option maxRecDepth 100000
set_option maxHeartbeats 4000000
/-! EK10: an instance of an own class made where __init__ may raise, in a try's body: by position, by names -/
namespace L2
open PySem PySem.Spec PyProof.Rows
section
variable {X : Cx} {CX : CXT} {k n : Nat} {f C : Addr} {fd : FuncData} {ps ks : List Str} {sp : Sp} {E : L2.St → XK} {x : Str} {p pos : Pos} {e : Expr} {es : List Expr} {kws : List Keyword} {t tk : TA} {g : List Value → List Value → List Value} {gV : List V → List V → List V}
theorem run_makeS {pins : List (Addr × Obj)} {σ : L2.St} {H : Hp} {s : Shared} {Q : VK} {us ws : List Value} {vs zs : List V} (M : Mk X.K C f) (F : FnOk X.prog X.w X.K X.mg X.base CX k f fd ps sp) (hr : Room (k + 1) X.A) (hb : KBn X.K fd ps (n + 1) ks g gV)
    (hx : PassesAt CX X σ (E σ)) (I : Inv X pins σ H s) (r : Vals vs us) (rz : Vals zs ws) (l1 : vs.length = n) (l2 : zs.length = ks.length)
    (h : ∀ x dx, H x = none → H dx = none → dx ≠ x → sp (gV (.ref x :: vs) zs) (upd (upd H dx (.own x)) x (.ins C dx [])) (fun v H2 => v = .non ∧ Q (.ref x) H2) (E σ)) :
    wpAny (model X.prog X.w) X.A (call (.ref C) us (ks.zip ws)) (EP X pins σ Q) X.xe s := by
  have hq := h (s.heap.objs.size + 1) s.heap.objs.size (I.hok.fresh (Nat.le_succ _)) (I.hok.fresh (Nat.le_refl _)) (Nat.ne_of_lt (Nat.lt_succ_self _))
  have I2 := Inv.made (C := C) I
  have r1 : Vals (V.ref (s.heap.objs.size + 1) :: vs) (Value.ref (s.heap.objs.size + 1) :: us) := .cons rfl r
  have r2 := hb.rel r1 rz
  have e1 : (Value.ref (s.heap.objs.size + 1) :: us).length = n + 1 := r1.length.symm.trans (congrArg Nat.succ l1)
  have e2 : ws.length = ks.length := rz.length.symm.trans l2
  refine wpAny_call (make_map (f := f) I.kIn M.makes M.init (beq_iff_eq.mp M.fn) (codeAny_mono (F.run _ X.stack _ _ ⟨Value.ref (s.heap.objs.size + 1) :: us, ks.zip ws⟩ (g (Value.ref (s.heap.objs.size + 1) :: us) ws) _ _ (E σ) (hr.make C us (ks.zip ws))
    (I2.env0.make C us (ks.zip ws)) (hb.to _ (Value.ref (s.heap.objs.size + 1) :: us) ws I2.kIn e1 e2) r2 hq) fun r s' hq' => ?_))
  cases r with
  | error e => exact hx pins _ _ e s' I2 hq'
  | ok fl =>
    cases fl with
    | ret u =>
      obtain ⟨v, H', I3, rv, ev, q3⟩ := I2.after hq'
      subst ev
      exact ⟨rv, ⟨V.ref (s.heap.objs.size + 1), H', I3, rfl, q3⟩⟩
    | next => exact False.elim hq'
    | brk => exact False.elim hq'
    | cont => exact False.elim hq'
def tMakeS (C : Addr) (n m : Nat) (sp : Sp) (gV : List V → List V → List V) (E : L2.St → XK) (t tk : TA) : TE := fun σ H Q => t σ H fun vs H1 => tk σ H1 fun zs H2 => vs.length = n ∧ zs.length = m ∧
  ∀ x dx, H2 x = none → H2 dx = none → dx ≠ x → sp (gV (.ref x :: vs) zs) (upd (upd H2 dx (.own x)) x (.ins C dx [])) (fun v H3 => v = .non ∧ Q (.ref x) H3) (E σ)
/-- C(e, ..) -/
theorem pe_makeS (M : Mk X.K C f) (F : FnOk X.prog X.w X.K X.mg X.base CX k f fd ps sp) (hr : Room (k + 1) X.A) (hg : Gl X x) (hm : X.mg x = some (.ref C)) (hb : KBn X.K fd ps (n + 1) [] g gV) (hx : ∀ σ, PassesAt CX X σ (E σ))
    (ha : PA X (e :: es) t) (hdb : (x == ("__debug__" : Str)) = false := by decide) (he : starEach (e :: es) X.env = (false, eval e X.env) :: starEach es X.env := by rfl) (hpl : (backTo pos (starEach es X.env)).any (·.1) = false := by rfl) :
    PE X (.Call (.Name x p) (e :: es) [] pos) (tMakeS C n 0 sp gV E t tNil) := by
  refine ⟨fun pins s σ H Q I h => ?_⟩
  refine wpAny_Call_Name_kw (ld_glob I hg hm ?_ hdb)
  refine PySem.W.callWith_K (h₀ := X.base) I.ok.mod.kin M.kp (thn (ha.run pos pins s σ H _ I h) fun us s1 ⟨vs, H1, I1, r, l1, l2, q⟩ => ⟨I1.kIn, ?_⟩) he hpl
  exact run_makeS (us := us) (ws := []) (zs := []) M F hr hb (hx σ) I1 r .nil l1 rfl q
/-- C(k = v, ..) -/
theorem pe_makeKS (M : Mk X.K C f) (F : FnOk X.prog X.w X.K X.mg X.base CX k f fd ps sp) (hr : Room (k + 1) X.A) (hg : Gl X x) (hm : X.mg x = some (.ref C)) (hb : KBn X.K fd ps 1 ks g gV) (hx : ∀ σ, PassesAt CX X σ (E σ))
    (hkw : PK X kws tk) (hall : (backToKw pos (keywordEach kws X.env)).all (·.1.isSome) = true := by rfl) (hks : (backToKw pos (keywordEach kws X.env)).filterMap (·.1) = ks := by rfl)
    (hdb : (x == ("__debug__" : Str)) = false := by decide) (hpl : ((backTo pos (starEach [] X.env)).any (·.1) || (backToKw pos (keywordEach kws X.env)).any (·.1.isNone)) = false := by rfl) :
    PE X (.Call (.Name x p) [] kws pos) (tMakeS C 0 ks.length sp gV E tNil tk) := by
  refine ⟨fun pins s σ H Q I h => ?_⟩
  refine wpAny_Call_Name_kw (ld_glob I hg hm ?_ hdb)
  refine PySem.W.callWith_KW0 (h₀ := X.base) I.ok.mod.kin M.kp hall (thn (hkw.run pos pins s σ H _ I h) fun ws s1 ⟨zs, H1, I1, rz, l1, l2, q⟩ => ⟨I1.kIn, ?_⟩) hpl
  rw [hks]
  exact run_makeS (us := []) (vs := []) M F hr hb (hx σ) I1 .nil rz rfl l2 q
end
end L2
end
section
set_option Elab.async false
set_option linter.all false
set_option maxRecDepth 100000
set_option maxHeartbeats 4000000
/-! K17a: the law's draws -/
namespace K17
open PySem PySem.Spec PyProof.Rows L2 PySem.EK
def top (i : Nat) : Stmt := PySem.Challenge.pw_fetchwalks_k17_schemas_refused.main.body.getD i (.Pass ⟨0, 0, 0, 0⟩)
abbrev FnP (K : PySem.W.Frag) (x : Str) (st : Stmt) (f : Addr) (fd : FuncData) : Prop := FunD K x x (defArgs st) (defBody st) (defScope st) [] [] f fd
abbrev sPot : Stmt := top 22
abbrev sDraw : Stmt := top 23
abbrev sPick : Stmt := top 24
/-- all but p is as it was -/
def SameB (p : Addr) (H H' : Hp) : Prop := ∀ b o, b ≠ p → H b = some o → H' b = some o
theorem SameB.refl (p : Addr) (H : Hp) : SameB p H H := fun _ _ _ e => e
theorem SameB.trans {p : Addr} {H H1 H2 : Hp} (a : SameB p H H1) (b : SameB p H1 H2) : SameB p H H2 := fun c o n e => b c o n (a c o n e)
def spPot (K : PySem.W.Frag) : Sp := fun vs H Q _ => ∃ (a : Addr) (ns : List Int) (k : Int), vs = [.ref a, .int k] ∧ SqL K H a (ns.map V.int) ∧ 0 ≤ k ∧ k ≤ 100 ∧
  ∀ p x y, H p = none → 0 ≤ x → 0 ≤ y → y < 2147483648 → Q (.ref p) (upd H p (.lst [.int x, .int y]))
def spDraw : Sp := fun vs H Q _ => ∃ (p : Addr) (x y m : Int), vs = [.ref p, .int m] ∧ H p = some (.lst [.int x, .int y]) ∧ 0 ≤ x ∧ 0 ≤ y ∧ y < 2147483648 ∧ 0 < m ∧ m < 1073741824 ∧
  ∀ H' x' y' d, SameB p H H' → H' p = some (.lst [.int x', .int y']) → 0 ≤ x' → 0 ≤ y' → y' < 2147483648 → 0 ≤ d → d < m → Q (.int d) H'
def spPick (K : PySem.W.Frag) : Sp := fun vs H Q _ => ∃ (p l : Addr) (x y : Int) (xs : List V), vs = [.ref p, .ref l] ∧ H p = some (.lst [.int x, .int y]) ∧ 0 ≤ x ∧ 0 ≤ y ∧ y < 2147483648 ∧ H l = some (.lst xs) ∧ l ≠ p ∧ xs ≠ [] ∧ xs.length < 1000000 ∧
  ∀ H' x' y' v, SameB p H H' → H' p = some (.lst [.int x', .int y']) → 0 ≤ x' → 0 ≤ y' → y' < 2147483648 → v ∈ xs → Q v H'
/-- the names that the law's text leaves to the built-ins -/
structure Bl (mg : Str → Option Value) : Prop where
  len : mg "len" = none
  abs : mg "abs" = none
  max : mg "max" = none
  min : mg "min" = none
  int : mg "int" = none
  divmod : mg "divmod" = none
  isinstance : mg "isinstance" = none
  repr : mg "repr" = none
  range : mg "range" = none
  all : mg "all" = none
  super : mg "super" = none
  sorted : mg "sorted" = none
  dict : mg "dict" = none
  list : mg "list" = none
  tuple : mg "tuple" = none
  str : mg "str" = none
  bool : mg "bool" = none
  enumerate : mg "enumerate" = none
local macro_rules | `(tactic| walk_at "rd") => `(tactic| repeat (first
  | refine ⟨_, rfl, ?_⟩
  | refine ⟨_, _, rfl, rfl, (show CMul _ _ from Or.inl ⟨by decide, by decide⟩), ?_⟩
  | refine ⟨_, _, rfl, rfl, (show CPow _ _ from ⟨by decide, by decide, by decide⟩), ?_⟩
  | refine ⟨_, _, rfl, rfl, (show CDiv _ _ from ⟨by decide, by decide⟩), ?_⟩
  | refine ⟨_, _, rfl, rfl, (show (0 : Int) < _ by first | decide | assumption), ?_⟩
  | refine ⟨_, _, rfl, rfl, ?_⟩
  | refine ⟨_, _, rfl, ?_⟩
  | refine .inl ⟨_, rfl, ?_⟩
  | refine ⟨rfl, ?_⟩))
section
variable {P : Program} {w : World} {K : PySem.W.Frag} {mg : Str → Option Value} {base : Heap} {f : Addr} {fd : FuncData}
theorem scPot : FnScope ["_law_script", "_law_k", "_law_cell"] ["_law_script", "_law_k"] (defScope sPot) := ⟨rfl, rfl, rfl, by decide +kernel, rfl, by decide +kernel, by decide +kernel⟩
theorem cube_ok {k : Int} (h0 : 0 ≤ k) (h1 : k ≤ 100) : 0 ≤ (2 * k + 3) ^ 3 ∧ (2 * k + 3) ^ 3 < 18446744073709551616 := by
  have e : (2 * k + 3) ^ 3 = (2 * k + 3) * (2 * k + 3) * (2 * k + 3) := by
    rw [Int.pow_succ, Int.pow_succ, Int.pow_succ, Int.pow_zero, Int.one_mul]
  have h5 : 0 ≤ 2 * k + 3 := by omega
  have h6 : 2 * k + 3 ≤ 203 := by omega
  have a1 : (2 * k + 3) * (2 * k + 3) ≤ 203 * 203 := Int.mul_le_mul h6 h6 h5 (by decide)
  have a2 : 0 ≤ (2 * k + 3) * (2 * k + 3) := Int.mul_nonneg h5 h5
  have a3 : (2 * k + 3) * (2 * k + 3) * (2 * k + 3) ≤ 203 * 203 * 203 := Int.mul_le_mul a1 h6 h5 (by decide)
  have a4 : 0 ≤ (2 * k + 3) * (2 * k + 3) * (2 * k + 3) := Int.mul_nonneg a2 h5
  rw [e]
  omega
theorem ok_pot (F : FnP K "_law_pot" sPot f fd) (B : Bl mg) : FnOk P w K mg base CX0 1 f fd ["_law_script", "_law_k"] (spPot K) := by
  refine F.ok scPot (fun vs H Q E h => ?_) (fun cdv A outer s H vs Q E hr h => ?_)
  · obtain ⟨a, ns, k, rfl, _⟩ := h
    rfl
  · obtain ⟨a, ns, k, rfl, hS, h0, h1, hQ⟩ := h
    refine ⟨_, PSs.nox (pss_cons (ps_set (i := 2) scPot.nd rfl (Or.inl rfl) (pe_op op_add (pe_op op_mul pe_int (pv 1)) pe_int))
      (pss_cons (ps_if (pt_cmpR op_lt (pv 1) (pe_callB call_len_seq (by rfl) B.len (by decide +kernel) (pa_cons (pv 0) pa_nil)) (nomark _)) (pss_one (ps_set (i := 2) scPot.nd rfl (Or.inl rfl) (pe_callB call_abs (by rfl) B.abs (by decide +kernel) (pa_cons (pe_ix ix_list (pv 0) (pv 1) (fun _ _ => rfl)) pa_nil)))) pss_nil)
      (pss_one (ps_ret (pe_lst (pa_cons (pe_callB (call_max2 rfl) (by rfl) B.max (by decide +kernel) (pa_cons pe_int (pa_cons (pe_op op_sub (pv 2) (pe_op op_pow pe_int pe_int)) pa_nil))) (pa_cons (pe_op op_add (pe_op op_mod (pe_op op_mul (pe_callTy call_int1 (by rfl) B.int (by decide +kernel) (pa_cons (pe_op op_add (pe_op op_mod (pe_callTy call_int1 (by rfl) B.int (by decide +kernel) (pa_cons (pv 2) pa_nil)) pe_int) pe_int) pa_nil)) (pe_op op_pow (pe_op op_add (pe_op op_mul pe_int (pv 1)) pe_int) pe_int)) pe_int) pe_int) pa_nil))))))), ?_⟩
    walk_at "rd"
    refine ⟨a, _, rfl, .inl hS, ?_⟩
    walk_at "rd"
    obtain ⟨c1, c2⟩ := cube_ok h0 h1
    have c3 : 0 ≤ (2 * k + 3) ^ Int.toNat 3 := c1
    have c4 : (2 * k + 3) ^ Int.toNat 3 < 18446744073709551616 := c2
    have hp5 : CPow (2 * k + 3) 3 := ⟨by decide, by decide, by omega⟩
    refine ite2 (fun hc => ?_) (fun hc => ?_)
    · have hlt : k.toNat < ns.length := by
        have q : k < ((ns.map V.int).length : Int) := of_decide_eq_true hc
        rw [List.length_map] at q
        omega
      have hz : atI (ns.map V.int) k = some (V.int ns[k.toNat]) := by
        have e := atI_nat (xs := ns.map V.int) (j := k.toNat) (v := V.int ns[k.toNat]) (by simp [hlt])
        rw [Int.toNat_of_nonneg h0] at e
        exact e
      walk_at "rd"
      refine ⟨a, _, _, _, rfl, rfl, hS, hz, ?_⟩
      walk_at "rd"
      refine ⟨hp5, _, _, rfl, rfl, Or.inr ⟨by omega, by omega⟩, ?_⟩
      walk_at "rd"
      refine ⟨(by show 2 ≤ sizeLine; decide), fun p hp => ?_⟩
      refine hQ p _ _ hp ?_ ?_ ?_
      · split <;> omega
      · have := Int.emod_nonneg (((if ns[k.toNat] < 0 then -ns[k.toNat] else ns[k.toNat]) % 2147483549 + 5) * (2 * k + 3) ^ Int.toNat 3) (b := 2147483477) (by decide)
        omega
      · have := Int.emod_lt_of_pos (((if ns[k.toNat] < 0 then -ns[k.toNat] else ns[k.toNat]) % 2147483549 + 5) * (2 * k + 3) ^ Int.toNat 3) (b := 2147483477) (by decide)
        omega
    · walk_at "rd"
      refine ⟨hp5, _, _, rfl, rfl, Or.inr ⟨by omega, by omega⟩, ?_⟩
      walk_at "rd"
      refine ⟨(by show 2 ≤ sizeLine; decide), fun p hp => ?_⟩
      refine hQ p _ _ hp ?_ ?_ ?_
      · split <;> omega
      · have := Int.emod_nonneg (((31 * k + 17) % 2147483549 + 5) * (2 * k + 3) ^ Int.toNat 3) (b := 2147483477) (by decide)
        omega
      · have := Int.emod_lt_of_pos (((31 * k + 17) % 2147483549 + 5) * (2 * k + 3) ^ Int.toNat 3) (b := 2147483477) (by decide)
        omega
theorem scDraw : FnScope ["_law_pot_here", "_law_many", "_law_digit"] ["_law_pot_here", "_law_many"] (defScope sDraw) := ⟨rfl, rfl, rfl, by decide +kernel, rfl, by decide +kernel, by decide +kernel⟩
theorem ok_draw (F : FnP K "_law_draw" sDraw f fd) (B : Bl mg) : FnOk P w K mg base CX0 1 f fd ["_law_pot_here", "_law_many"] spDraw := by
  refine F.ok scDraw (fun vs H Q E h => ?_) (fun cdv A outer s H vs Q E hr h => ?_)
  · obtain ⟨p, x, y, m, rfl, _⟩ := h
    rfl
  · obtain ⟨p, x, y, m, rfl, hp, hx, hy, hy2, hm, hm2, hQ⟩ := h
    refine ⟨_, PSs.nox (pss_cons (ps_if (pt_cmpR op_gt (pe_ix ix_list (pv 0) pe_int (fun _ _ => rfl)) pe_int (nomark _)) (pss_cons (ps_asg (pe_callB call_divmodW (by rfl) B.divmod (by decide +kernel) (pa_cons (pe_ix ix_list (pv 0) pe_int (fun _ _ => rfl)) (pa_cons (pv 1) pa_nil))) (pg_tup (by rfl) (pgs_cons (pg_sub (pv 0) pe_int set_list) (pgs_cons (pg_name (i := 2) scDraw.nd rfl (Or.inl rfl)) pgs_nil))))
      (pss_one (ps_ret (pv 2)))) pss_nil)
      (pss_cons (ps_asg (pe_op op_mod (pe_callTy call_int1 (by rfl) B.int (by decide +kernel) (pa_cons (pe_op op_add (pe_op op_mul (pe_ix ix_list (pv 0) pe_int (fun _ _ => rfl)) pe_int) pe_int) pa_nil)) pe_int) (pg_sub (pv 0) pe_int set_list))
      (pss_one (ps_ret (pe_op op_mod (pe_callTy call_int1 (by rfl) B.int (by decide +kernel) (pa_cons (pe_op op_fdiv (pe_op op_mod (pe_callTy call_int1 (by rfl) B.int (by decide +kernel) (pa_cons (pe_op op_mul (pe_ix ix_list (pv 0) pe_int (fun _ _ => rfl)) (pe_ix ix_list (pv 0) pe_int (fun _ _ => rfl))) pa_nil)) pe_int) pe_int) pa_nil)) (pv 1)))))), ?_⟩
    walk_at "rd"
    refine ⟨p, _, _, _, rfl, rfl, SqL.of hp, rfl, ?_⟩
    walk_at "rd"
    refine ite2 (fun hc => ?_) (fun hc => ?_)
    · walk_at "rd"
      refine ⟨p, _, _, _, rfl, rfl, SqL.of hp, rfl, ?_⟩
      walk_at "rd"
      refine ⟨⟨hm, PyProof.noPylong_small (by omega)⟩, fun t ht => ?_⟩
      have ntp : p ≠ t := ne_of_none hp ht
      refine ⟨t, _, rfl, SqT.of upd_same, rfl, _, _, rfl, _, rfl, p, _, _, 0, rfl, rfl, by rw [upd_ne ntp]; exact hp, rfl, _, _, rfl, rfl, ?_⟩
      refine ⟨_, rfl, ?_⟩
      refine hQ _ (x / m) y _ (fun b o nb e => ?_) upd_same (Int.ediv_nonneg hx (by omega)) hy hy2 (Int.emod_nonneg _ (by omega)) (Int.emod_lt_of_pos _ hm)
      rw [upd_ne nb, upd_ne (ne_of_none e ht)]
      exact e
    · walk_at "rd"
      refine ⟨p, _, _, _, rfl, rfl, SqL.of hp, rfl, ?_⟩
      refine ⟨_, _, rfl, rfl, Or.inl ⟨by omega, by omega⟩, ?_⟩
      walk_at "rd"
      refine ⟨p, _, _, 1, rfl, rfl, hp, rfl, ?_⟩
      have n1 := Int.emod_nonneg (y * 48271 + 13331) (b := 2147483587) (by decide)
      have n2 := Int.emod_lt_of_pos (y * 48271 + 13331) (b := 2147483587) (by decide)
      walk_at "rd"
      refine ⟨p, _, _, _, rfl, rfl, SqL.of upd_same, rfl, ?_⟩
      walk_at "rd"
      refine ⟨p, _, _, _, rfl, rfl, SqL.of upd_same, rfl, ?_⟩
      refine ⟨_, _, rfl, rfl, Or.inl ⟨by omega, by omega⟩, ?_⟩
      walk_at "rd"
      refine hQ _ x _ _ (fun b o nb e => by rw [upd_ne nb]; exact e) upd_same hx n1 (by omega) (Int.emod_nonneg _ (by omega)) (Int.emod_lt_of_pos _ hm)
theorem scPick : FnScope ["_law_pot_here", "_law_some"] ["_law_pot_here", "_law_some"] (defScope sPick) := ⟨rfl, rfl, rfl, by decide +kernel, rfl, by decide +kernel, by decide +kernel⟩
theorem ok_pick {fD : Addr} {fdD : FuncData} (F : FnP K "_law_pick" sPick f fd) (B : Bl mg) (FD : FnP K "_law_draw" sDraw fD fdD) (gD : mg "_law_draw" = some (.ref fD)) : FnOk P w K mg base CX0 2 f fd ["_law_pot_here", "_law_some"] (spPick K) := by
  have GD : FnOk P w K mg base CX0 1 fD fdD ["_law_pot_here", "_law_many"] spDraw := ok_draw FD B
  have bD : Binds K fdD ["_law_pot_here", "_law_many"] [] := FD.bindsN fun _ _ _ _ _ _ us hl => match us, hl with | [_, _], _ => rfl
  refine F.ok scPick (fun vs H Q E h => ?_) (fun cdv A outer s H vs Q E hr h => ?_)
  · obtain ⟨p, l, x, y, xs, rfl, _⟩ := h
    rfl
  · obtain ⟨p, l, x, y, xs, rfl, hp, hx, hy, hy2, hl, hne, hnil, hlen, hQ⟩ := h
    refine ⟨_, PSs.nox (pss_one (ps_ret (pe_ix ix_list (pv 1) (pe_call GD hr rfl gD FD.kp bD .nil pass0 (pa_cons (pv 0) (pa_cons (pe_callB call_len_seq (by rfl) B.len (by decide +kernel) (pa_cons (pv 1) pa_nil)) pa_nil))) (fun _ _ => rfl)))), ?_⟩
    have hpos : 0 < xs.length := List.length_pos_iff.mpr hnil
    refine ⟨_, rfl, _, rfl, _, rfl, l, _, rfl, .inl (SqL.of hl), p, x, y, _, rfl, hp, hx, hy, hy2, by omega, by omega, fun H' x' y' d sb hp' hx' hy' hy2' hd hd2 => ?_⟩
    have hl' : H' l = some (.lst xs) := sb l _ hne hl
    have hlt : d.toNat < xs.length := by omega
    have hat : atI xs d = some xs[d.toNat] := by
      have e := atI_nat (xs := xs) (j := d.toNat) (v := xs[d.toNat]) (by simp [hlt])
      rw [Int.toNat_of_nonneg hd] at e
      exact e
    exact ⟨l, _, _, _, rfl, rfl, SqL.of hl', hat, hQ H' x' y' _ sb hp' hx' hy' hy2' (List.getElem_mem hlt)⟩
end
end K17
end
section
set_option Elab.async false
set_option linter.all false
set_option maxRecDepth 100000
set_option maxHeartbeats 4000000
/-! EKM13: isinstance of any data -/
namespace L2
open PySem PySem.Spec PyProof.Rows PySem.EK
def tyD : PyData → String
  | .none => "NoneType"
  | .bool _ => "bool"
  | .int _ => "int"
  | .str _ => "str"
  | .list _ => "list"
  | .tuple _ => "tuple"
  | .dict _ => "dict"
section
variable {X : Cx}
theorem kit_data {pins : List (Addr × Obj)} {σ : L2.St} {H : Hp} {s : Shared} (I : Inv X pins σ H s) {v : V} {d : PyData} {u : Value} (D : DpX X.prog X.w X.K H v d) (r : RelV v u) :
    ∃ P : Heap → Prop, PySem.W.KitX X.K u (.type (tyD d)) P ∧ P s.heap ∧ u ≠ .builtin "__main__.__loader__#opaque" := by
  cases D with
  | non => cases (show u = Value.none from r); exact ⟨_, PySem.W.kitx_none, True.intro, fun z => nomatch z⟩
  | bl b => cases (show u = Value.bool b from r); exact ⟨_, PySem.W.kitx_bool, True.intro, fun z => nomatch z⟩
  | int i => obtain ⟨t, rfl⟩ := (show ∃ t, u = Value.int i t from r); exact ⟨_, PySem.W.kitx_int, True.intro, fun z => nomatch z⟩
  | str x => obtain ⟨t, rfl⟩ := (show ∃ t, u = Value.str x t from r); exact ⟨_, PySem.W.kitx_str, True.intro, fun z => nomatch z⟩
  | lst hs ha =>
    cases r
    obtain ⟨its, rv, ⟨o, n, ho, hc, _, hd⟩, _⟩ := I.list hs
    exact ⟨_, PySem.W.kitx_list, ⟨o, ho, hc⟩, fun z => nomatch z⟩
  | tup hs ha =>
    cases r
    obtain ⟨its, rv, ⟨o, ho, hc, n, hd⟩, _⟩ := I.tuple hs
    exact ⟨_, PySem.W.kitx_tuple, ⟨o, ho, hc⟩, fun z => nomatch z⟩
  | dct hd hk ha =>
    cases r
    obtain ⟨⟨o, ep, arr, ho, hx, _⟩, _⟩ := hd.at I.hok
    exact ⟨_, PySem.W.kitx_dict, ⟨o, ho, hx.1⟩, fun z => nomatch z⟩
def rIsA (X : Cx) : List V → Hp → VK → Prop := fun xs H Q => ∃ (v c : V) (u : Value) (d : PyData) (b : Bool), xs = [v, c] ∧ ClsV c u ∧ DpX X.prog X.w X.K H v d ∧ PySem.W.kitOne X.K (.type (tyD d)) u = some b ∧ Q (.bl b) H
theorem call_isA : CallR X (.builtin "isinstance") (rIsA X) := by
  intro pins s σ H xs us Q I r h
  obtain ⟨v, c, cv, d, b, rfl, k, D, e, q⟩ := h
  obtain ⟨u1, u2, rfl, r1, r2⟩ := vals2 r
  have e2 := k.eq r2
  subst e2
  obtain ⟨P, Z, p, hx⟩ := kit_data I D r1
  exact PySem.W.kia_one Z I.kIn p e hx fun tk => ⟨.bl b, H, I.tok tk, rfl, q⟩
/-- isinstance(x, (c1, c2)) -/
def rIsAT (X : Cx) : List V → Hp → VK → Prop := fun xs H Q => ∃ (v : V) (tp : Addr) (cs : List V) (us : List Value) (d : PyData) (b : Bool), xs = [v, .ref tp] ∧ H tp = some (.tup cs) ∧ Paired ClsV cs us ∧ DpX X.prog X.w X.K H v d ∧ PySem.W.kitAny X.K (.type (tyD d)) us = some b ∧ Q (.bl b) H
theorem call_isAT : CallR X (.builtin "isinstance") (rIsAT X) := by
  intro pins s σ H xs us Q I r h
  obtain ⟨v, tp, cs, ws, d, b, rfl, hT, k, D, e, q⟩ := h
  obtain ⟨u1, u2, rfl, r1, r2⟩ := vals2 r
  cases (show u2 = Value.ref tp from r2)
  obtain ⟨P, Z, p, hx⟩ := kit_data I D r1
  obtain ⟨_, its, rv, o, h1, h2, n, h3⟩ := (show ObjOk X.prog X.w H s.heap tp (.tup cs) from I.hok tp _ hT)
  have e3 := ClsV.all k rv
  subst e3
  obtain ⟨oc, od, dt, sl⟩ := o
  simp only at h2 h3
  subst h2 h3
  exact PySem.W.kia_tup Z I.kIn p h1 e hx fun tk => ⟨.bl b, H, I.tok tk, rfl, q⟩
end
end L2
end
section
set_option Elab.async false
set_option linter.all false
set_option maxRecDepth 100000
/-! EKM14: which data is of which class -/
namespace L2
open PySem PySem.Spec PyProof.Rows PySem.EK
def isTy (T a : String) : Bool := decide (a = T) || (decide (a = "bool") && decide (T = "int"))
def isT (T : String) (d : PyData) : Bool := isTy T (tyD d)
theorem kitB_all : ∀ a ∈ ["NoneType", "bool", "int", "str", "list", "tuple", "dict"], ∀ T ∈ ["str", "list", "tuple", "dict", "bool", "int"], kitB a T = some (isTy T a) := by decide +kernel
theorem tyD_mem (d : PyData) : tyD d ∈ ["NoneType", "bool", "int", "str", "list", "tuple", "dict"] := by
  cases d <;> simp [tyD]
theorem kit_d {K : PySem.W.Frag} {T : String} (hT : T ∈ ["str", "list", "tuple", "dict", "bool", "int"]) (d : PyData) : PySem.W.kitOne K (.type (tyD d)) (.type T) = some (isT T d) := kit_ty (kitB_all _ (tyD_mem d) _ hT)
end L2
end
section
set_option Elab.async false
set_option linter.all false
set_option maxRecDepth 100000
set_option maxHeartbeats 4000000
/-! K17b: names -/
namespace K17
open PySem PySem.Spec PyProof.Rows L2 PySem.EK
abbrev sName : Stmt := top 12
def L26 : Str := "abcdefghijklmnopqrstuvwxyz"
def isNameD : PyData → Bool
  | .str x => (decide (1 ≤ x.length) && decide (x.length ≤ 8)) && x.cps.toList.all fun c => decide (c ∈ L26.cps.toList)
  | _ => false
structure Gc (mg : Str → Option Value) : Prop where
  letters : ∃ t, mg "LETTERS" = some (.str L26 t)
  mostLetters : ∃ t, mg "MOST_LETTERS" = some (.int 8 t)
section
variable {P : Program} {w : World} {K : PySem.W.Frag} {mg : Str → Option Value} {base : Heap} {f : Addr} {fd : FuncData}
theorem same_new {H : Hp} {p : Addr} {o : HO} (h : H p = none) : Same H (upd H p o) := fun b u e => by
  rw [upd_ne (ne_of_none e h)]
  exact e
def spName (P : Program) (w : World) (K : PySem.W.Frag) : Sp := fun vs H Q _ => ∃ (v : V) (d : PyData), vs = [v] ∧ DpX P w K H v d ∧ (∀ x, d = .str x → x.length ≤ sizeLine) ∧ ∀ H', Same H H' → Q (.bl (isNameD d)) H'
theorem scName : FnScope ["value", "letter"] ["value"] (defScope sName) := ⟨rfl, rfl, rfl, by decide +kernel, rfl, by decide +kernel, by decide +kernel⟩
theorem ok_name (F : FnP K "is_name" sName f fd) (B : Bl mg) (T : Gc mg) : FnOk P w K mg base CX0 1 f fd ["value"] (spName P w K) := by
  obtain ⟨tl, hl⟩ := T.letters
  obtain ⟨tm, hm⟩ := T.mostLetters
  refine F.ok scName (fun vs H Q E h => ?_) (fun cdv A outer s H vs Q E hr h => ?_)
  · obtain ⟨v, d, rfl, _⟩ := h
    rfl
  · obtain ⟨v, d, rfl, D, hz, hQ⟩ := h
    refine ⟨_, PSs.nox (pss_cons (ps_if (PW.pt (pw_or (pt_not (pt_val (pe_callB call_isA (by rfl) B.isinstance (by decide +kernel) (pa_cons (pv 0) (pa_cons (pe_bltn (v := .ty "str") (by rfl) B.str PyProof.Rows.Boot.«str» rfl) pa_nil))))) (pw_or1 (pt_not (pt_chain op_le op_le pe_int (pe_callB call_len_str (by rfl) B.len (by decide +kernel) (pa_cons (pv 0) pa_nil)) (pe_glob (v := .int 8) (by rfl) hm ⟨_, rfl⟩)))))) (pss_one (ps_ret pe_bl)) pss_nil)
      (pss_one (ps_ret (pe_callB (cr_all rfl) (by rfl) B.all (by decide +kernel) (pa_cons (pe_lc (own := [("letter", 1)]) (by rfl) scName.nd (pi_str (pv 0)) (blkOk_by (own := [("letter", 1)]) (N := ["value", "letter"]) (sc := defScope sName) (by decide +kernel)) (fun _ _ _ _ _ => (pg_name (i := 1) scName.nd rfl (Or.inl rfl))) (fun _ _ _ _ _ => pts_nil) (fun _ _ _ _ _ => (pe_cmpR op_in_sign (pv 1) (pe_glob (v := .str L26) (by rfl) hl ⟨_, rfl⟩) (by rfl)))) pa_nil))))), ?_⟩
    refine ⟨_, rfl, _, _, _, _, _, rfl, .ty _, D, kit_d (by simp) d, _, rfl, ?_⟩
    have sS : ∀ {Hx : Hp}, Same H Hx → Same H Hx := fun z => z
    cases hd : isT "str" d with
    | false =>
      have e : isNameD d = false := by
        cases d with
        | str x => cases hd
        | _ => rfl
      refine iteT ?_
      refine iteT ?_
      have z := hQ H (Same.refl H)
      rw [e] at z
      exact z
    | true =>
      obtain ⟨x, rfl⟩ : ∃ x, d = .str x := by
        cases d with
        | str x => exact ⟨x, rfl⟩
        | _ => cases hd
      have hx := hz x rfl
      have hv : v = .str x := by cases D; rfl
      subst hv
      refine iteF ?_
      refine ⟨_, rfl, x, rfl, hx, _, _, rfl, rfl, _, rfl, ?_⟩
      have no : ∀ b, isNameD (.str x) = b → Q (.bl b) H := fun b e => by
        have z := hQ H (Same.refl H)
        rw [e] at z
        exact z
      by_cases h1 : 1 ≤ (x.length : Int)
      · rw [decide_eq_true h1]
        refine iteT ⟨_, _, rfl, rfl, _, rfl, ?_⟩
        by_cases h2 : (x.length : Int) ≤ 8
        · rw [decide_eq_true h2]
          refine iteF ?_
          refine ⟨_, rfl, x, rfl, fun D hD => lc_it walk_str (fun i Hc => Same H Hc ∧ Hc D = some (.lst ((x.cps.toList.take i).map fun c => V.bl (decide (c ∈ L26.cps.toList))))) ⟨same_new hD, upd_same⟩ (fun _ _ _ _ => trivial) ?_ ?_⟩
          · rintro i y Hc Hd hi ⟨sm, hDc⟩ ⟨rfl, c, hc, rfl⟩
            have hc' : x.cps.toList[i]? = some c := by rw [Array.getElem?_toList]; exact hc
            have hlt : (((x.cps.toList.take i).map fun c => V.bl (decide (c ∈ L26.cps.toList)))).length < sizeLine := by
              rw [List.length_map, List.length_take, sizeLine_eq]
              have : x.cps.toList.length = x.length := by simp [Str.length]
              omega
            have nx : Same H (upd Hd D (.lst (((x.cps.toList.take i).map fun c => V.bl (decide (c ∈ L26.cps.toList))) ++ [V.bl (decide (c ∈ L26.cps.toList))]))) := fun b o e => by
              have hbD : b ≠ D := ne_of_none e hD
              rw [upd_ne hbD]
              exact sm b o e
            have ex : ((x.cps.toList.take (i + 1)).map fun c => V.bl (decide (c ∈ L26.cps.toList))) = ((x.cps.toList.take i).map fun c => V.bl (decide (c ∈ L26.cps.toList))) ++ [V.bl (decide (c ∈ L26.cps.toList))] := by
              rw [List.take_succ, hc', List.map_append]
              rfl
            refine ⟨rfl, ?_⟩
            unfold tYes
            refine (if_pos rfl).mpr ?_
            refine ⟨_, rfl, c, L26, rfl, rfl, _, hDc, hlt, nx, ?_⟩
            rw [ex]
            exact upd_same
          · rintro Hc ⟨sm, hDc⟩
            refine ⟨D, x.cps.toList.map fun c => decide (c ∈ L26.cps.toList), rfl, SqL.of ?_, ?_⟩
            · rw [hDc, List.map_map, List.take_of_length_le (by simp)]
              rfl
            · have z := hQ Hc sm
              have h1' : 1 ≤ x.length := by omega
              have h2' : x.length ≤ 8 := by omega
              have e : isNameD (.str x) = (x.cps.toList.map fun c => decide (c ∈ L26.cps.toList)).all id := by
                simp [isNameD, h1', h2', List.all_map, Function.comp_def]
              rw [e] at z
              exact z
        · rw [decide_eq_false h2]
          refine iteT (no false ?_)
          have h2' : ¬ x.length ≤ 8 := by omega
          simp [isNameD, h2']
      · rw [decide_eq_false h1]
        refine iteF ⟨_, rfl, iteT (no false ?_)⟩
        have h1' : ¬ 1 ≤ x.length := by omega
        simp [isNameD, h1']
end
end K17
end
section
set_option Elab.async false
set_option linter.all false
set_option maxRecDepth 100000
set_option maxHeartbeats 4000000
/-! EKM15: dict(pairs) as the dict of ints and texts that it is, where it is one; data with such dicts -/
namespace L2
open PySem PySem.Spec PyProof.Rows PySem.EK
def mkKey : MK → Option Key
  | .fl (.int i) => some (.inl i)
  | .fl (.str x) => some (.inr x)
  | _ => none
def asK : List (MK × V) → Option (List (Key × V))
  | [] => some []
  | p :: r => match mkKey p.1, asK r with
    | some k, some l => some ((k, p.2) :: l)
    | _, _ => none
theorem mkKey_v {m : MK} {k : Key} (h : mkKey m = some k) : m = .fl (kV k) := by
  cases m with
  | fl v => cases v <;> cases h <;> rfl
  | tp t x => cases h
theorem mkKey_kV (k : Key) : mkKey (.fl (kV k)) = some k := by cases k <;> rfl
theorem asK_map : ∀ {es : List (MK × V)} {kvs : List (Key × V)}, asK es = some kvs → es = kvs.map flK
  | [], _, h => by cases h; rfl
  | p :: r, _, h => by
    unfold asK at h
    cases h1 : mkKey p.1 with
    | none => rw [h1] at h; cases h
    | some k =>
      cases h2 : asK r with
      | none => rw [h1, h2] at h; cases h
      | some l =>
        rw [h1, h2] at h
        cases h
        rw [List.map_cons, ← asK_map h2]
        show p :: r = (MK.fl (kV k), p.2) :: r
        rw [← mkKey_v h1]
theorem asK_fl : ∀ (kvs : List (Key × V)), asK (kvs.map flK) = some kvs
  | [] => rfl
  | p :: r => by
    rw [List.map_cons]
    unfold asK
    rw [asK_fl r, show mkKey (flK p).1 = some p.1 from mkKey_kV p.1]
    rfl
theorem mk_pairs {P : Program} {w : World} : ∀ {kvs : List (Key × V)} {arr : List DictEntry}, Paired (EnR P w) (kvs.map flK) arr →
    ∃ vs : List (Key × Value), KV kvs vs ∧ Pairs (mixKind P w) arr vs ∧ ∀ e ∈ arr, ∃ k, (mixKind P w).is k e.key = true ∧ e.hash = (mixKind P w).hash k
  | [], _, .nil => ⟨[], .nil, .nil, fun e he => (nomatch he)⟩
  | (k, v) :: es, _, .cons (b := e) ⟨r1, ⟨n, hn, hh⟩, r2⟩ t => by
    obtain ⟨vs, h1, h2, h3⟩ := mk_pairs t
    have hk : keyIs k e.key = true := by
      cases k with
      | inl i =>
        obtain ⟨t, e1⟩ := (show ∃ t, e.key = Value.int i t from r1)
        rw [e1]
        show Value.isInt i (.int i t) = true
        simp [Value.isInt]
      | inr x =>
        obtain ⟨t, e1⟩ := (show ∃ t, e.key = Value.str x t from r1)
        rw [e1]
        show Value.isStrOf x (.str x t) = true
        simp [Value.isStrOf]
    have hh' : e.hash = keyH w k := by
      cases k <;> cases hn <;> exact hh
    refine ⟨(k, e.val) :: vs, .cons ⟨rfl, r2⟩ h1, .cons hk rfl h2, fun e' he' => ?_⟩
    rcases List.mem_cons.mp he' with rfl | he'
    · exact ⟨k, hk, hh'⟩
    · exact h3 e' he'
theorem nodup_of_fl {kvs : List (Key × V)} (h : ((kvs.map flK).map (·.1.n)).Nodup) : (kvs.map (·.1)).Nodup := by
  have e : (kvs.map flK).map (·.1.n) = (kvs.map (·.1)).map keyN := by
    rw [List.map_map, List.map_map]
    rfl
  rw [e] at h
  exact (List.pairwise_map.mp h).imp fun {a b} z q => z (by rw [q])
theorem mx_dk {P : Program} {w : World} {H : Hp} {h : Heap} {a : Addr} {kvs : List (Key × V)} (x : MxAt P w h a (kvs.map flK)) (y : (a == sysModules) = false) (z : kvs.length ≤ sizeLine) : ObjOk P w H h a (.dK kvs) := by
  obtain ⟨o, ep, arr, ho, hx, hd, r, hn⟩ := x
  obtain ⟨vs, h1, h2, h3⟩ := mk_pairs r
  refine ⟨z, y, vs, h1, o, arr.toArray, ep, ho, hx, hd, fun e he => h3 e (by simpa using he), by simpa using h2, ?_⟩
  have e : vs.map (·.1) = kvs.map (·.1) := h1.keys.symm
  rw [e]
  exact nodup_of_fl hn
/-- the dict of these entries, at p -/
def dictO (P : Program) (w : World) (p : Addr) (es : List (MK × V)) : HO := match asK es with
  | some kvs => .dK kvs
  | none => MxO P w p es
theorem dictO_ok {P : Program} {w : World} {H : Hp} {h : Heap} {a : Addr} {es : List (MK × V)} (x : MxAt P w h a es) (y : (a == sysModules) = false) (z : es.length ≤ sizeLine) : ObjOk P w H h a (dictO P w a es) := by
  unfold dictO
  cases e : asK es with
  | none => exact mxO_ok x y z
  | some kvs =>
    have e' := asK_map e
    subst e'
    rw [List.length_map] at z
    exact mx_dk x y z
section
variable {X : Cx}
def rDictC (X : Cx) : List V → Hp → VK → Prop := fun xs H Q => ∃ (a : Addr) (ps : List Addr) (prs : List (MK × V)), xs = [.ref a] ∧ SqL X.K H a (ps.map V.ref) ∧ Paired (fun p kv => SqT X.K H p [kv.1.v, kv.2] ∧ kv.1.ok X.K H ∧ kv.1.n.isSome = true) ps prs ∧
    ∀ p, H p = none → Q (.ref p) (upd H p (dictO X.prog X.w p (mergeM [] prs)))
theorem call_dictC (hcalm : X.calm = true) (hu : X.A.units + 3 < cLine) : CallR X (.type "dict") (rDictC X) := by
  intro pins s σ H xs us Q I r q
  obtain ⟨a, ps, prs, ex, hq, hp, q⟩ := q
  subst ex
  obtain ⟨u, eu, rx⟩ := vals1 r
  subst eu
  cases rx
  obtain ⟨its, rv, pl, hz⟩ := I.list hq
  have ei := refs_at rv
  subst ei
  rw [List.length_map] at hz
  obtain ⟨qs, rel, hl, hpr⟩ := pairs_ofM I hp
  obtain ⟨o, n, ho, hc, hd, hdat⟩ := pl
  refine raw_dict (keySys X.prog X.w s.heap) (prs := qs) hu (TupKeep.refl _) (I.ok.hd hcalm) ho hc hd hdat (by simp [hl]) (by rw [hl]; exact hz) (fun j q' e => ?_) fun h' tk hd' k => ?_
  · obtain ⟨b, e1, e2, e3⟩ := hpr j q' e
    exact ⟨b, by simp [e1], e2, e3⟩
  · have hm : (s.heap.objs.size == sysModules) = false := beq_eq_false_iff_ne.mpr (Nat.ne_of_gt I.big)
    have hpl : prs.length = ps.length := by rw [← hl]; exact Paired.length rel
    have hlen : (mergeM [] prs).length ≤ sizeLine := by
      have z := mergeM_length prs []
      rw [List.length_nil, Nat.zero_add, hpl] at z
      exact Nat.le_trans z hz
    obtain ⟨⟨o', ep, ho', hx', hd''⟩, _, hone⟩ := hd'
    have hat : MxAt X.prog X.w h' s.heap.objs.size (mergeM [] prs) := ⟨o', ep, _, ho', hx', hd'', paired_en (paired_merge rel .nil), nodup_pr (paired_merge rel .nil) hone⟩
    exact ⟨.ref s.heap.objs.size, upd H s.heap.objs.size (dictO X.prog X.w s.heap.objs.size (mergeM [] prs)), I.laid (t' := tk) k (Nat.le_refl _) (dictO_ok hat hm hlen), rfl, q _ (I.hok.fresh (Nat.le_refl _))⟩
end
/-! ### data whose dicts are of ints and texts where they can be -/
def DictC (P : Program) (w : World) (H : Hp) (a : Addr) (es : List (MK × V)) : Prop := (∃ kvs, Rd H a (.dK kvs) ∧ es = kvs.map flK) ∨ (Rd H a (MxO P w a es) ∧ asK es = none)
theorem DictC.v {P : Program} {w : World} {H : Hp} {a : Addr} {es : List (MK × V)} (h : DictC P w H a es) : DictV P w H a es := by
  rcases h with h | h
  · exact .inl h
  · exact .inr h.1
theorem dictO_c {P : Program} {w : World} {H : Hp} {a : Addr} {es : List (MK × V)} (h : Rd H a (dictO P w a es)) : DictC P w H a es := by
  unfold dictO at h
  cases e : asK es with
  | none => rw [e] at h; exact .inr ⟨h, e⟩
  | some kvs => rw [e] at h; exact .inl ⟨kvs, h, asK_map e⟩
theorem DictC.k {P : Program} {w : World} {H : Hp} {a : Addr} {es : List (MK × V)} {kvs : List (Key × V)} (h : DictC P w H a es) (e : es = kvs.map flK) : Rd H a (.dK kvs) := by
  rcases h with ⟨kvs', h, e'⟩ | ⟨_, h⟩
  · have z := asK_fl kvs
    rw [← e, e', asK_fl] at z
    cases z
    exact h
  · rw [e, asK_fl] at h
    cases h
def MK.d : MK → PyData
  | .fl (.bl b) => .bool b
  | .fl (.int i) => .int i
  | .fl (.str x) => .str x
  | .fl _ => .none
  | .tp _ x => .tuple [.str x]
/-- the longest text, list, dict of our data -/
abbrev big : Nat := 100000
theorem big_line : big ≤ sizeLine := by decide
def KeyOk (K : PySem.W.Frag) (H : Hp) (m : MK) : Prop := m.ok K H ∧ m.n.isSome = true ∧ ∀ x, m.d = .str x ∨ m.d = .tuple [.str x] → x.length ≤ big
mutual
inductive DpC (P : Program) (w : World) (K : PySem.W.Frag) (H : Hp) : V → PyData → Prop
  | non : DpC P w K H .non .none
  | bl (b : Bool) : DpC P w K H (.bl b) (.bool b)
  | int (i : Int) : DpC P w K H (.int i) (.int i)
  | str (x : Str) : x.length ≤ big → DpC P w K H (.str x) (.str x)
  | lst {a : Addr} {xs : List V} {ds : List PyData} : SqL K H a xs → xs.length ≤ big → DpCAll P w K H xs ds → DpC P w K H (.ref a) (.list ds)
  | tup {a : Addr} {xs : List V} {ds : List PyData} : SqT K H a xs → xs.length ≤ big → DpCAll P w K H xs ds → DpC P w K H (.ref a) (.tuple ds)
  | dct {a : Addr} {es : List (MK × V)} {ds : List (PyData × PyData)} : DictC P w H a es → es.length ≤ big → (∀ p ∈ es, KeyOk K H p.1) → ds.map (·.1) = es.map (·.1.d) → DpCAll P w K H (es.map (·.2)) (ds.map (·.2)) → DpC P w K H (.ref a) (.dict ds)
inductive DpCAll (P : Program) (w : World) (K : PySem.W.Frag) (H : Hp) : List V → List PyData → Prop
  | nil : DpCAll P w K H [] []
  | cons {v : V} {vs : List V} {d : PyData} {ds : List PyData} : DpC P w K H v d → DpCAll P w K H vs ds → DpCAll P w K H (v :: vs) (d :: ds)
end
section
variable {P : Program} {w : World} {K : PySem.W.Frag} {H H' : Hp}
theorem rd_same (k : Same H H') {a : Addr} {u : HO} (h : Rd H a u) : Rd H' a u := by
  rcases h with h | ⟨o, h⟩
  · exact .inl (k a _ h)
  · exact .inr ⟨o, k a _ h⟩
theorem sqT_same (k : Same H H') {a : Addr} {xs : List V} (h : SqT K H a xs) : SqT K H' a xs := by
  rcases h with h | h
  · exact .inl (rd_same k h)
  · exact .inr h
theorem keyOk_same (k : Same H H') {m : MK} (h : KeyOk K H m) : KeyOk K H' m := by
  refine ⟨?_, h.2⟩
  cases m with
  | fl v => trivial
  | tp t x => exact sqT_same k h.1
theorem dictC_same (k : Same H H') {a : Addr} {es : List (MK × V)} (h : DictC P w H a es) : DictC P w H' a es := by
  rcases h with ⟨kvs, h, e⟩ | ⟨h, e⟩
  · exact .inl ⟨kvs, rd_same k h, e⟩
  · exact .inr ⟨rd_same k h, e⟩
mutual
theorem DpC.same (k : Same H H') : ∀ {v : V} {d : PyData}, DpC P w K H v d → DpC P w K H' v d
  | _, _, .non => .non
  | _, _, .bl b => .bl b
  | _, _, .int i => .int i
  | _, _, .str x h => .str x h
  | _, _, .lst hs hl ha => .lst (k.seq hs) hl (DpCAll.same k ha)
  | _, _, .tup hs hl ha => .tup (sqT_same k hs) hl (DpCAll.same k ha)
  | _, _, .dct hd hl hk he ha => .dct (dictC_same k hd) hl (fun p hp => keyOk_same k (hk p hp)) he (DpCAll.same k ha)
theorem DpCAll.same (k : Same H H') : ∀ {vs : List V} {ds : List PyData}, DpCAll P w K H vs ds → DpCAll P w K H' vs ds
  | _, _, .nil => .nil
  | _, _, .cons h1 h2 => .cons (DpC.same k h1) (DpCAll.same k h2)
end
theorem key_dpX {m : MK} (h : KeyOk K H m) : DpX P w K H m.v m.d := by
  obtain ⟨h1, h2, _⟩ := h
  cases m with
  | fl v =>
    cases v with
    | non => exact .non
    | bl b => exact .bl b
    | int i => exact .int i
    | str x => exact .str x
    | _ => cases h2
  | tp t x => exact .tup h1 (.cons (.str x) .nil)
theorem key_dpC {m : MK} (h : KeyOk K H m) : DpC P w K H m.v m.d := by
  obtain ⟨h1, h2, h3⟩ := h
  cases m with
  | fl v =>
    cases v with
    | non => exact .non
    | bl b => exact .bl b
    | int i => exact .int i
    | str x => exact .str x (h3 x (.inl rfl))
    | _ => cases h2
  | tp t x => exact .tup h1 (by show 1 ≤ big; decide) (.cons (.str x (h3 x (.inr rfl))) .nil)
theorem keys_dpX : ∀ {es : List (MK × V)}, (∀ p ∈ es, KeyOk K H p.1) → DpXAll P w K H (es.map (·.1.v)) (es.map (·.1.d))
  | [], _ => .nil
  | p :: r, h => .cons (key_dpX (h p List.mem_cons_self)) (keys_dpX fun q hq => h q (List.mem_cons_of_mem _ hq))
mutual
theorem DpC.x : ∀ {v : V} {d : PyData}, DpC P w K H v d → DpX P w K H v d
  | _, _, .non => .non
  | _, _, .bl b => .bl b
  | _, _, .int i => .int i
  | _, _, .str x h => .str x
  | _, _, .lst hs hl ha => .lst hs (DpCAll.x ha)
  | _, _, .tup hs hl ha => .tup hs (DpCAll.x ha)
  | _, _, .dct hd hl hk he ha => .dct hd.v (by rw [he]; exact keys_dpX hk) (DpCAll.x ha)
theorem DpCAll.x : ∀ {vs : List V} {ds : List PyData}, DpCAll P w K H vs ds → DpXAll P w K H vs ds
  | _, _, .nil => .nil
  | _, _, .cons h1 h2 => .cons (DpC.x h1) (DpCAll.x h2)
end
theorem DpCAll.length : ∀ {vs : List V} {ds : List PyData}, DpCAll P w K H vs ds → vs.length = ds.length
  | _, _, .nil => rfl
  | _, _, .cons _ h => by rw [List.length_cons, List.length_cons, DpCAll.length h]
theorem DpCAll.at : ∀ {vs : List V} {ds : List PyData}, DpCAll P w K H vs ds → ∀ {i : Nat} {v : V}, vs[i]? = some v → ∃ d, ds[i]? = some d ∧ DpC P w K H v d
  | _, _, .nil, i, v, e => by simp at e
  | _, _, .cons h t, i, v, e => by
    cases i with
    | zero =>
      simp at e
      subst e
      exact ⟨_, by simp, h⟩
    | succ i =>
      obtain ⟨d, h1, h2⟩ := DpCAll.at t (i := i) (v := v) (by simpa using e)
      exact ⟨d, by simpa using h1, h2⟩
theorem DpCAll.get : ∀ {vs : List V} {ds : List PyData}, DpCAll P w K H vs ds → ∀ {i : Nat} {d : PyData}, ds[i]? = some d → ∃ v, vs[i]? = some v ∧ DpC P w K H v d
  | _, _, .nil, i, v, e => by simp at e
  | _, _, .cons h t, i, v, e => by
    cases i with
    | zero =>
      simp at e
      subst e
      exact ⟨_, by simp, h⟩
    | succ i =>
      obtain ⟨d, h1, h2⟩ := DpCAll.get t (i := i) (d := v) (by simpa using e)
      exact ⟨d, by simpa using h1, h2⟩
theorem DpCAll.app : ∀ {vs ws : List V} {ds es : List PyData}, DpCAll P w K H vs ds → DpCAll P w K H ws es → DpCAll P w K H (vs ++ ws) (ds ++ es)
  | _, _, _, _, .nil, h => h
  | _, _, _, _, .cons a b, h => .cons a (DpCAll.app b h)
theorem DpCAll.take : ∀ {vs : List V} {ds : List PyData}, DpCAll P w K H vs ds → ∀ n, DpCAll P w K H (vs.take n) (ds.take n)
  | _, _, h, 0 => by simpa using DpCAll.nil
  | _, _, .nil, n + 1 => by simpa using DpCAll.nil
  | _, _, .cons a b, n + 1 => .cons a (DpCAll.take b n)
theorem DpCAll.drop : ∀ {vs : List V} {ds : List PyData}, DpCAll P w K H vs ds → ∀ n, DpCAll P w K H (vs.drop n) (ds.drop n)
  | _, _, h, 0 => h
  | _, _, .nil, n + 1 => by simpa using DpCAll.nil
  | _, _, .cons a b, n + 1 => DpCAll.drop b n
theorem DpC.txt {v : V} {d : PyData} (h : DpC P w K H v d) : ∀ x, d = .str x → x.length ≤ sizeLine := by
  intro x e
  subst e
  cases h with
  | str _ hx => exact Nat.le_trans hx big_line
theorem DpC.str_iff {v : V} {d : PyData} (h : DpC P w K H v d) (z : Str) : v = .str z ↔ d = .str z := by
  cases h <;> simp
def hasD (z : Str) (ds : List PyData) : Bool := ds.any fun d => match d with | .str y => decide (y = z) | _ => false
theorem hasS_D (z : Str) : ∀ {vs : List V} {ds : List PyData}, DpCAll P w K H vs ds → hasS z vs = hasD z ds
  | _, _, .nil => rfl
  | _, _, .cons h t => by
    have ih := hasS_D z t
    unfold hasS hasD at *
    rw [List.any_cons, List.any_cons, ih]
    congr 1
    cases h with
    | str x hx => by_cases q : x = z <;> simp [q]
    | _ => simp
end
end L2
end
section
set_option Elab.async false
set_option linter.all false
set_option maxRecDepth 100000
set_option maxHeartbeats 4000000
/-! EK11: a def of the text with its promise, in one fact; calls by it -/
namespace L2
open PySem PySem.Spec PyProof.Rows PySem.EK
/-- the def st stands under its name x -/
def Def (K : PySem.W.Frag) (mg : Str → Option Value) (x : Str) (st : Stmt) : Prop := ∃ f fd, FunD K x x (defArgs st) (defBody st) (defScope st) [] [] f fd ∧ mg x = some (.ref f)
/-- what is called x keeps the promise -/
def Cal (P : Program) (w : World) (K : PySem.W.Frag) (mg : Str → Option Value) (base : Heap) (CX : CXT) (k : Nat) (x : Str) (ps : List Str) (sp : Sp) : Prop :=
  ∃ f fd, FnOk P w K mg base CX k f fd ps sp ∧ mg x = some (.ref f) ∧ PySem.W.keepIn K (.ref f) = true ∧ Binds K fd ps []
def CalG (P : Program) (w : World) (K : PySem.W.Frag) (mg : Str → Option Value) (base : Heap) (CX : CXT) (k : Nat) (x : Str) (ps : List Str) (sp : Sp) : Prop :=
  ∃ f fd, FnG P w K mg base CX k f fd ps sp ∧ mg x = some (.ref f) ∧ PySem.W.keepIn K (.ref f) = true ∧ Binds K fd ps []
section
variable {P : Program} {w : World} {K : PySem.W.Frag} {mg : Str → Option Value} {base : Heap} {CX : CXT}
theorem cal_of {x : Str} {st : Stmt} {N ps : List Str} {k : Nat} {sp : Sp} (h : Def K mg x st) (S : FnScope N ps (defScope st)) (len : ∀ vs H Q E, sp vs H Q E → vs.length = ps.length)
    (hb : ∀ (kV doc pm : Value) (an : Option Addr) (cdv ct : Value) (us : List Value), us.length = ps.length → bindArgs (PySem.W.fnOf x x (defArgs st) (defBody st) (defScope st) .none kV doc pm an cdv ct) ⟨us, []⟩ = pure (ps.zip us))
    (hbody : ∀ (f : Addr) (cdv : Value) (A : Around) (outer : List Env) (s : Shared) (H : Hp) (vs : List V) (Q : VK) (E : XK), Room k (A.deeper (envOfC x (defScope st) s.heap.objs.size f cdv)) → sp vs H Q E →
      ∃ t, PSs (cxOf CX P w K mg base N x (defScope st) f cdv A outer s H E) (defBody st) t ∧ t { nx := fun _ H' => Q .non H', rt := Q } (start N vs) H) : Cal P w K mg base CX (k + 1) x ps sp := by
  obtain ⟨f, fd, F, m⟩ := h
  exact ⟨f, fd, F.ok S len (hbody f), m, F.kp, F.bindsN hb⟩
end
section
variable {X : Cx} {CX : CXT} {k j : Nat} {ps : List Str} {sp : Sp} {E : XK} {x : Str} {p pos : Pos} {e : Expr} {es : List Expr} {t : TA}
theorem pe_c (C : Cal X.prog X.w X.K X.mg X.base CX k x ps sp) (hr : Room j X.A) (hx : Passes CX X E) (ha : PA X (e :: es) t) (hk : k ≤ j := by decide) (hg : Gl X x := by rfl)
    (hdb : (x == ("__debug__" : Str)) = false := by decide) (he : starEach (e :: es) X.env = (false, eval e X.env) :: starEach es X.env := by rfl) (hpl : (backTo pos (starEach es X.env)).any (·.1) = false := by rfl) :
    PE X (.Call (.Name x p) (e :: es) [] pos) (tCall sp [] E t) := by
  obtain ⟨f, fd, F, hm, hkp, hb⟩ := C
  exact pe_call F (hr.mono hk) hg hm hkp hb .nil hx ha hdb he hpl
theorem pe_cG (C : CalG X.prog X.w X.K X.mg X.base CX k x ps sp) (hgd : X.A.guards = some []) (hr : Room j X.A) (hx : Passes CX X E) (ha : PA X (e :: es) t) (hk : k ≤ j := by decide) (hg : Gl X x := by rfl)
    (hdb : (x == ("__debug__" : Str)) = false := by decide) (he : starEach (e :: es) X.env = (false, eval e X.env) :: starEach es X.env := by rfl) (hpl : (backTo pos (starEach es X.env)).any (·.1) = false := by rfl) :
    PE X (.Call (.Name x p) (e :: es) [] pos) (tCall sp [] E t) := by
  obtain ⟨f, fd, F, hm, hkp, hb⟩ := C
  exact pe_callG F hgd (hr.mono hk) hg hm hkp hb .nil hx ha hdb he hpl
/-- in a try, or where what is raised leaves: the wish at the caller's slots -/
theorem pe_cS {E : L2.St → XK} (C : Cal X.prog X.w X.K X.mg X.base CX k x ps sp) (hr : Room j X.A) (hx : ∀ σ, PassesAt CX X σ (E σ)) (ha : PA X (e :: es) t) (hk : k ≤ j := by decide) (hg : Gl X x := by rfl)
    (hdb : (x == ("__debug__" : Str)) = false := by decide) (he : starEach (e :: es) X.env = (false, eval e X.env) :: starEach es X.env := by rfl) (hpl : (backTo pos (starEach es X.env)).any (·.1) = false := by rfl) :
    PE X (.Call (.Name x p) (e :: es) [] pos) (tCallS sp E t) := by
  obtain ⟨f, fd, F, hm, hkp, hb⟩ := C
  exact pe_callS F (hr.mono hk) hg hm hkp hb hx ha hdb he hpl
end
end L2
end
section
set_option Elab.async false
set_option linter.all false
set_option maxRecDepth 100000
set_option maxHeartbeats 4000000
/-! EK12: a comprehension whose turns leave what is there as it is -/
namespace L2
open PySem PySem.Spec PyProof.Rows PySem.EK
theorem same_new {H : Hp} {p : Addr} {o : HO} (h : H p = none) : Same H (upd H p o) := fun b u e => by
  rw [upd_ne (ne_of_none e h)]
  exact e
theorem same_mut {H H' : Hp} {p : Addr} {o : HO} (k : Same H H') (h : H p = none) : Same H (upd H' p o) := fun b u e => by
  rw [upd_ne (ne_of_none e h)]
  exact k b u e
theorem filterMap_range_succ {α : Type} (sel : Nat → Option α) (i : Nat) : (List.range (i + 1)).filterMap sel = (List.range i).filterMap sel ++ (sel i).toList := by
  rw [List.range_succ, List.filterMap_append]
  cases h : sel i <;> simp [h]
theorem filterMap_range_le {α : Type} (sel : Nat → Option α) (i : Nat) : ((List.range i).filterMap sel).length ≤ i := by
  have := List.length_filterMap_le sel (List.range i)
  simpa using this
theorem un_of {k : Nat} {A : Around} (hr : Room k A) {n : Nat} (hn : n ≤ 200 := by decide) : A.units + n < cLine := by
  have := hr.un
  omega
theorem fm_take {α β : Type} {f : Nat → Option β} {F : α → Option β} {l : List α} (h : ∀ i x, l[i]? = some x → f i = F x) : ∀ n, n ≤ l.length → (List.range n).filterMap f = (l.take n).filterMap F
  | 0, _ => by simp
  | n + 1, hn => by
    have hx : l[n]? = some l[n] := by simp
    rw [filterMap_range_succ, fm_take h n (by omega), List.take_succ, List.filterMap_append, hx, h n _ hx]
    cases e : F l[n] <;> simp [e]
theorem fm_all {α β : Type} {f : Nat → Option β} {F : α → Option β} {l : List α} (h : ∀ i x, l[i]? = some x → f i = F x) : (List.range l.length).filterMap f = l.filterMap F := by
  have z := fm_take h l.length (Nat.le_refl _)
  rwa [List.take_length] at z
theorem tYes_in {σ : L2.St} {H : Hp} {A B : Hp → Prop} (h : A H) : tYes σ H (fun b H3 => if b = true then A H3 else B H3) := by
  unfold tYes
  exact (if_pos rfl).mpr h
theorem same_unlock {H H' : Hp} {d : Addr} {u o : HO} (hd : H d = some u) (k : Same (upd H d o) H') : Same H (upd H' d u) := fun b v e => by
  by_cases hb : b = d
  · subst hb
    rw [hd] at e
    cases e
    exact upd_same
  · rw [upd_ne hb]
    refine k b v ?_
    rw [upd_ne hb]
    exact e
theorem putK_le (kvs : List (Key × V)) (k : Key) (v : V) : (putK kvs k v).length ≤ kvs.length + 1 := by
  unfold putK
  split <;> simp
theorem mergeK_le : ∀ (more kvs : List (Key × V)), (mergeK kvs more).length ≤ kvs.length + more.length
  | [], kvs => by simp [mergeK]
  | p :: r, kvs => by
    have h := mergeK_le r (putK kvs p.1 p.2)
    have h2 := putK_le kvs p.1 p.2
    have e : mergeK kvs (p :: r) = mergeK (putK kvs p.1 p.2) r := rfl
    rw [e, List.length_cons]
    omega
theorem mergeK_app (kvs a b : List (Key × V)) : mergeK kvs (a ++ b) = mergeK (mergeK kvs a) b := List.foldl_append
section
variable {J : It} {n : Nat} {G : Hp → Prop} {Y : Nat → Hp → V → Hp → Prop} {g : TG} {tt : TT} {te tk tv : TE} {vs : List Nat} {σ : L2.St} {H1 : Hp} {D : Addr} {Qd : Hp → Prop}
/-- [e for x in it if t] -/
theorem lc_flt (w : Walk J n G Y) (hG : ∀ H, Same H1 H → G H) (hD : H1 D = none) (hn : n ≤ sizeLine) (sel : Nat → Option V)
    (hs : ∀ i x H H', i < n → Same H1 H → Y i H x H' → ∀ Nx : Option V → Hp → Prop, (∀ H'', Same H H'' → Nx (sel i) H'') →
      g x (wipe σ vs) H' fun σ2 H2 => wipe σ2 vs = wipe σ vs ∧ tt σ2 H2 fun b H3 => if b = true then te σ2 H3 fun y H4 => Nx (some y) H4 else Nx none H3)
    (hd : ∀ H, Same H1 H → H D = some (.lst ((List.range n).filterMap sel)) → Qd H) :
    ∃ W : Nat → Nat → Hp → Prop, (∃ m, W 0 m (upd H1 D (.lst []))) ∧ ∀ i m H, W i m H →
      (J.stop i H ∧ Qd H) ∨ (J.go i H ∧ ∃ Nx : Hp → Prop, (∀ H', Nx H' → ∃ m', m' < m ∧ W (i + 1) m' H') ∧ ∀ x H', J.yld i H x H' → g x (wipe σ vs) H' fun σ2 H2 => wipe σ2 vs = wipe σ vs ∧ tt σ2 H2 fun b H3 =>
        if b = true then te σ2 H3 fun y H4 => ∃ acc, H4 D = some (.lst acc) ∧ acc.length < sizeLine ∧ Nx (upd H4 D (.lst (acc ++ [y]))) else Nx H3) := by
  refine lc_it w (fun i H => Same H1 H ∧ H D = some (.lst ((List.range i).filterMap sel))) ⟨same_new hD, upd_same⟩ (fun i H _ h => hG H h.1) (fun i x H H' hi hP hY => ?_) (fun H h => hd H h.1 h.2)
  obtain ⟨k, hDc⟩ := hP
  have z := hs i x H H' hi k hY (fun o H4 => match o with
    | some y => ∃ acc, H4 D = some (.lst acc) ∧ acc.length < sizeLine ∧ (Same H1 (upd H4 D (.lst (acc ++ [y]))) ∧ upd H4 D (.lst (acc ++ [y])) D = some (.lst ((List.range (i + 1)).filterMap sel)))
    | none => Same H1 H4 ∧ H4 D = some (.lst ((List.range (i + 1)).filterMap sel))) (fun H'' k2 => by
      have e := filterMap_range_succ sel i
      have l := filterMap_range_le sel i
      cases h : sel i with
      | none =>
        refine ⟨k.trans k2, ?_⟩
        rw [e, h, k2 D _ hDc]
        simp
      | some y =>
        refine ⟨_, k2 D _ hDc, by omega, same_mut (k.trans k2) hD, ?_⟩
        rw [upd_same, e, h]
        rfl)
  exact z
/-- {k: v for x in it if t}; sel tells the key and the value of a turn -/
theorem dc_flt (w : Walk J n G Y) (hG : ∀ H, Same H1 H → G H) (hD : H1 D = none) (hn : n ≤ sizeLine) (sel : Nat → Option (Key × V))
    (hs : ∀ i x H H', i < n → Same H1 H → Y i H x H' → ∀ Nx : Option (V × V) → Hp → Prop, (∀ H'', Same H H'' → Nx ((sel i).map fun p => (kV p.1, p.2)) H'') →
      g x (wipe σ vs) H' fun σ2 H2 => wipe σ2 vs = wipe σ vs ∧ tt σ2 H2 fun b H3 => if b = true then tk σ2 H3 fun y H4 => tv σ2 H4 fun z H5 => Nx (some (y, z)) H5 else Nx none H3)
    (hd : ∀ H, Same H1 H → H D = some (.dK (mergeK [] ((List.range n).filterMap sel))) → Qd H) :
    ∃ W : Nat → Nat → Hp → Prop, (∃ m, W 0 m (upd H1 D (.dK []))) ∧ ∀ i m H, W i m H →
      (J.stop i H ∧ Qd H) ∨ (J.go i H ∧ ∃ Nx : Hp → Prop, (∀ H', Nx H' → ∃ m', m' < m ∧ W (i + 1) m' H') ∧ ∀ x H', J.yld i H x H' → g x (wipe σ vs) H' fun σ2 H2 => wipe σ2 vs = wipe σ vs ∧ tt σ2 H2 fun b H3 =>
        if b = true then tk σ2 H3 fun y H4 => tv σ2 H4 fun z H5 => ∃ kvs k, y = kV k ∧ H5 D = some (.dK kvs) ∧ kvs.length < sizeLine ∧ Nx (upd H5 D (.dK (putK kvs k z))) else Nx H3) := by
  refine ⟨fun i m H => m = n - i ∧ i ≤ n ∧ Same H1 H ∧ H D = some (.dK (mergeK [] ((List.range i).filterMap sel))), ⟨n, by simp, Nat.zero_le _, same_new hD, upd_same⟩, ?_⟩
  rintro i m H ⟨rfl, hi, k, hDc⟩
  have q := hG H k
  by_cases hlt : i < n
  · refine .inr ⟨w.goes i H hlt q, fun H4 => Same H1 H4 ∧ H4 D = some (.dK (mergeK [] ((List.range (i + 1)).filterMap sel))), fun H' p' => ⟨n - (i + 1), by omega, rfl, hlt, p'⟩, fun x H' y => ?_⟩
    have z := hs i x H H' hlt k (w.yields i H x H' hlt q y) (fun o H5 => match o with
      | some yz => ∃ kvs k, yz.1 = kV k ∧ H5 D = some (.dK kvs) ∧ kvs.length < sizeLine ∧ (Same H1 (upd H5 D (.dK (putK kvs k yz.2))) ∧ upd H5 D (.dK (putK kvs k yz.2)) D = some (.dK (mergeK [] ((List.range (i + 1)).filterMap sel))))
      | none => Same H1 H5 ∧ H5 D = some (.dK (mergeK [] ((List.range (i + 1)).filterMap sel)))) (fun H'' k2 => by
        have e := filterMap_range_succ sel i
        have l := filterMap_range_le sel i
        have l2 := mergeK_le ((List.range i).filterMap sel) []
        rw [List.length_nil, Nat.zero_add] at l2
        cases h : sel i with
        | none =>
          refine ⟨k.trans k2, ?_⟩
          rw [e, h, k2 D _ hDc]
          simp
        | some p =>
          refine ⟨_, p.1, rfl, k2 D _ hDc, by omega, same_mut (k.trans k2) hD, ?_⟩
          rw [upd_same, e, h, mergeK_app]
          rfl)
    exact z
  · have e : i = n := by omega
    subst e
    exact .inl ⟨w.stops H q, hd H k hDc⟩
end
end L2
end
section
set_option Elab.async false
set_option linter.all false
set_option maxRecDepth 100000
set_option maxHeartbeats 4000000
namespace K17
open PySem PySem.Spec PyProof.Rows L2 PySem.EK
theorem sqT_lock {K : PySem.W.Frag} {H : Hp} {d t : Addr} {u o : HO} {xs : List V} (h : SqT K H t xs) (hd : H d = some u) (hu : ∀ ys, u ≠ .tup ys) (hf : ∀ o v, u ≠ .frz o v) : SqT K (upd H d o) t xs := by
  rcases h with (h | ⟨q, h⟩) | h
  · refine .inl (.inl ?_)
    rw [upd_ne]
    · exact h
    · rintro rfl
      rw [hd] at h
      cases h
      exact hu _ rfl
  · refine .inl (.inr ⟨q, ?_⟩)
    rw [upd_ne]
    · exact h
    · rintro rfl
      rw [hd] at h
      cases h
      exact hf _ _ rfl
  · exact .inr h
theorem keyOk_lock {K : PySem.W.Frag} {H : Hp} {d : Addr} {u o : HO} {m : MK} (h : KeyOk K H m) (hd : H d = some u) (hu : ∀ ys, u ≠ .tup ys) (hf : ∀ o v, u ≠ .frz o v) : KeyOk K (upd H d o) m := by
  refine ⟨?_, h.2⟩
  cases m with
  | fl v => trivial
  | tp t x => exact sqT_lock h.1 hd hu hf
mutual
theorem dpX_same {P : Program} {w : World} {K : PySem.W.Frag} {H H' : Hp} (k : Same H H') : ∀ {v : V} {d : PyData}, DpX P w K H v d → DpX P w K H' v d
  | _, _, .non => .non
  | _, _, .bl b => .bl b
  | _, _, .int i => .int i
  | _, _, .str x => .str x
  | _, _, .lst hs ha => .lst (k.seq hs) (dpX_sameA k ha)
  | _, _, .tup hs ha => .tup (sqT_same k hs) (dpX_sameA k ha)
  | _, _, .dct hd hk ha => .dct (by
      rcases hd with ⟨kvs, h, e⟩ | h
      · exact .inl ⟨kvs, rd_same k h, e⟩
      · exact .inr (rd_same k h)) (dpX_sameA k hk) (dpX_sameA k ha)
theorem dpX_sameA {P : Program} {w : World} {K : PySem.W.Frag} {H H' : Hp} (k : Same H H') : ∀ {vs : List V} {ds : List PyData}, DpXAll P w K H vs ds → DpXAll P w K H' vs ds
  | _, _, .nil => .nil
  | _, _, .cons h1 h2 => .cons (dpX_same k h1) (dpX_sameA k h2)
end
abbrev s_is_name : Stmt := sName
abbrev s__law_is_name : Stmt := top 28
abbrev s_is_sequence : Stmt := top 13
abbrev s_is_kind_of : Stmt := top 17
abbrev s_are_names_to : Stmt := top 14
def spNameC (P : Program) (w : World) (K : PySem.W.Frag) : Sp := fun vs H Q _ => ∃ (v : V) (d : PyData), vs = [v] ∧ DpX P w K H v d ∧ (∀ x, d = .str x → x.length ≤ sizeLine) ∧ ∀ H', Same H H' → Q (.bl (isNameD d)) H'
def isSeqD : PyData → Bool
  | .list _ => true
  | .tuple _ => true
  | _ => false
theorem isSeq_kit {K : PySem.W.Frag} (d : PyData) : PySem.W.kitAny K (.type (tyD d)) [.type "list", .type "tuple"] = some (isSeqD d) := by
  unfold PySem.W.kitAny PySem.W.kitAny
  rw [kit_d (by simp) d, kit_d (by simp) d]
  cases d <;> rfl
def spSeq (P : Program) (w : World) (K : PySem.W.Frag) : Sp := fun vs H Q _ => ∃ (v : V) (d : PyData), vs = [v] ∧ DpX P w K H v d ∧ ∀ H', Same H H' → Q (.bl (isSeqD d)) H'
def kindOfD (ds : List PyData) : PyData → Bool
  | .str z => hasD z ds
  | _ => false
def spKindOf (P : Program) (w : World) (K : PySem.W.Frag) : Sp := fun vs H Q _ => ∃ (v : V) (d : PyData) (a : Addr) (xs : List V) (ds : List PyData), vs = [v, .ref a] ∧ DpC P w K H v d ∧ (SqL K H a xs ∨ SqT K H a xs) ∧ DpCAll P w K H xs ds ∧ ∀ H', Same H H' → Q (.bl (kindOfD ds d)) H'
def namesToD (most : Int) : PyData → Bool
  | .dict ds => decide ((ds.length : Int) ≤ most) && ds.all fun p => isNameD p.1
  | _ => false
/-- a dict that is walked is not locked -/
def NF (H : Hp) (v : V) (d : PyData) : Prop := ∀ a ds, v = .ref a → d = .dict ds → ∀ o u, H a ≠ some (.frz o u)
theorem NF.same {P : Program} {w : World} {K : PySem.W.Frag} {H H' : Hp} {v : V} {d : PyData} (n : NF H v d) (D : DpC P w K H v d) (k : Same H H') : NF H' v d := by
  intro a ds ev ed o u e
  subst ev ed
  have no := n a ds rfl rfl
  cases D with
  | dct hc hl hk he ha =>
    rcases hc with ⟨kvs, h | ⟨o', h⟩, _⟩ | ⟨h | ⟨o', h⟩, _⟩
    · rw [k a _ h] at e; cases e
    · exact no _ _ h
    · rw [k a _ h] at e; cases e
    · exact no _ _ h
def spNamesTo (P : Program) (w : World) (K : PySem.W.Frag) : Sp := fun vs H Q _ => ∃ (v : V) (d : PyData) (most : Int), vs = [v, .int most] ∧ most ≤ 1000 ∧ DpC P w K H v d ∧ NF H v d ∧ ∀ H', Same H H' → Q (.bl (namesToD most d)) H'
section
variable {P : Program} {w : World} {K : PySem.W.Frag} {mg : Str → Option Value} {base : Heap}
theorem c_is_name (h : Def K mg "is_name" s_is_name) (B : Bl mg) (T : Gc mg) : Cal P w K mg base CX0 1 "is_name" ["value"] (spName P w K) := by
  obtain ⟨f, fd, F, m⟩ := h
  exact ⟨f, fd, ok_name F B T, m, F.kp, F.bindsN (fun _ _ _ _ _ _ us hl => match us, hl with | [_], _ => rfl)⟩
theorem sc__law_is_name : FnScope ["_law_value", "_law_letter"] ["_law_value"] (defScope s__law_is_name) := ⟨rfl, rfl, rfl, by decide +kernel, rfl, by decide +kernel, by decide +kernel⟩
theorem c__law_is_name (h : Def K mg "_law_is_name" s__law_is_name) (B : Bl mg) : Cal P w K mg base CX0 1 "_law_is_name" ["_law_value"] (spName P w K) := by
  refine cal_of h sc__law_is_name (fun vs H Q E h => ?_) (fun _ _ _ _ _ _ us hl => match us, hl with | [_], _ => rfl) (fun f cdv A outer s H vs Q E hr h => ?_)
  · obtain ⟨v, d, rfl, _⟩ := h
    rfl
  · obtain ⟨v, d, rfl, D, hz, hQ⟩ := h
    refine ⟨_, PSs.nox (pss_cons (ps_if (PW.pt (pw_or (pt_not (pt_val (pe_callB call_isA (by rfl) B.isinstance (by decide +kernel) (pa_cons (pv 0) (pa_cons (pe_bltn (v := .ty "str") (by rfl) B.str PyProof.Rows.Boot.«str» rfl) pa_nil))))) (pw_or1 (pt_not (pt_chain op_le op_le pe_int (pe_callB call_len_str (by rfl) B.len (by decide +kernel) (pa_cons (pv 0) pa_nil)) pe_int))))) (pss_one (ps_ret pe_bl)) pss_nil)
      (pss_one (ps_ret (pe_callB (cr_all rfl) (by rfl) B.all (by decide +kernel) (pa_cons (pe_lc (own := [("_law_letter", 1)]) (by rfl) sc__law_is_name.nd (pi_str (pv 0)) (blkOk_by (own := [("_law_letter", 1)]) (N := ["_law_value", "_law_letter"]) (sc := defScope s__law_is_name) (by decide +kernel)) (fun _ _ _ _ _ => (pg_name (i := 1) sc__law_is_name.nd rfl (Or.inl rfl))) (fun _ _ _ _ _ => pts_nil) (fun _ _ _ _ _ => (pe_cmpR op_in_sign (pv 1) pe_str (by rfl)))) pa_nil))))), ?_⟩
    refine ⟨_, rfl, _, _, _, _, _, rfl, .ty _, D, kit_d (by simp) d, _, rfl, ?_⟩
    have sS : ∀ {Hx : Hp}, Same H Hx → Same H Hx := fun z => z
    cases hd : isT "str" d with
    | false =>
      have e : isNameD d = false := by
        cases d with
        | str x => cases hd
        | _ => rfl
      refine iteT ?_
      refine iteT ?_
      have z := hQ H (Same.refl H)
      rw [e] at z
      exact z
    | true =>
      obtain ⟨x, rfl⟩ : ∃ x, d = .str x := by
        cases d with
        | str x => exact ⟨x, rfl⟩
        | _ => cases hd
      have hx := hz x rfl
      have hv : v = .str x := by cases D; rfl
      subst hv
      refine iteF ?_
      refine ⟨_, rfl, x, rfl, hx, _, _, rfl, rfl, _, rfl, ?_⟩
      have no : ∀ b, isNameD (.str x) = b → Q (.bl b) H := fun b e => by
        have z := hQ H (Same.refl H)
        rw [e] at z
        exact z
      by_cases h1 : 1 ≤ (x.length : Int)
      · rw [decide_eq_true h1]
        refine iteT ⟨_, _, rfl, rfl, _, rfl, ?_⟩
        by_cases h2 : (x.length : Int) ≤ 8
        · rw [decide_eq_true h2]
          refine iteF ?_
          refine ⟨_, rfl, x, rfl, fun D hD => lc_it walk_str (fun i Hc => Same H Hc ∧ Hc D = some (.lst ((x.cps.toList.take i).map fun c => V.bl (decide (c ∈ L26.cps.toList))))) ⟨same_new hD, upd_same⟩ (fun _ _ _ _ => trivial) ?_ ?_⟩
          · rintro i y Hc Hd hi ⟨sm, hDc⟩ ⟨rfl, c, hc, rfl⟩
            have hc' : x.cps.toList[i]? = some c := by rw [Array.getElem?_toList]; exact hc
            have hlt : (((x.cps.toList.take i).map fun c => V.bl (decide (c ∈ L26.cps.toList)))).length < sizeLine := by
              rw [List.length_map, List.length_take, sizeLine_eq]
              have : x.cps.toList.length = x.length := by simp [Str.length]
              omega
            have nx : Same H (upd Hd D (.lst (((x.cps.toList.take i).map fun c => V.bl (decide (c ∈ L26.cps.toList))) ++ [V.bl (decide (c ∈ L26.cps.toList))]))) := fun b o e => by
              have hbD : b ≠ D := ne_of_none e hD
              rw [upd_ne hbD]
              exact sm b o e
            have ex : ((x.cps.toList.take (i + 1)).map fun c => V.bl (decide (c ∈ L26.cps.toList))) = ((x.cps.toList.take i).map fun c => V.bl (decide (c ∈ L26.cps.toList))) ++ [V.bl (decide (c ∈ L26.cps.toList))] := by
              rw [List.take_succ, hc', List.map_append]
              rfl
            refine ⟨rfl, ?_⟩
            unfold tYes
            refine (if_pos rfl).mpr ?_
            refine ⟨_, rfl, c, L26, rfl, rfl, _, hDc, hlt, nx, ?_⟩
            rw [ex]
            exact upd_same
          · rintro Hc ⟨sm, hDc⟩
            refine ⟨D, x.cps.toList.map fun c => decide (c ∈ L26.cps.toList), rfl, SqL.of ?_, ?_⟩
            · rw [hDc, List.map_map, List.take_of_length_le (by simp)]
              rfl
            · have z := hQ Hc sm
              have h1' : 1 ≤ x.length := by omega
              have h2' : x.length ≤ 8 := by omega
              have e : isNameD (.str x) = (x.cps.toList.map fun c => decide (c ∈ L26.cps.toList)).all id := by
                simp [isNameD, h1', h2', List.all_map, Function.comp_def]
              rw [e] at z
              exact z
        · rw [decide_eq_false h2]
          refine iteT (no false ?_)
          have h2' : ¬ x.length ≤ 8 := by omega
          simp [isNameD, h2']
      · rw [decide_eq_false h1]
        refine iteF ⟨_, rfl, iteT (no false ?_)⟩
        have h1' : ¬ 1 ≤ x.length := by omega
        simp [isNameD, h1']

theorem sc_is_sequence : FnScope ["value"] ["value"] (defScope s_is_sequence) := ⟨rfl, rfl, rfl, by decide +kernel, rfl, by decide +kernel, by decide +kernel⟩
theorem c_is_sequence (h : Def K mg "is_sequence" s_is_sequence) (B : Bl mg) : Cal P w K mg base CX0 1 "is_sequence" ["value"] (spSeq P w K) := by
  refine cal_of h sc_is_sequence (fun vs H Q E h => ?_) (fun _ _ _ _ _ _ us hl => match us, hl with | [_], _ => rfl) (fun f cdv A outer s H vs Q E hr h => ?_)
  · obtain ⟨v, d, rfl, _⟩ := h
    rfl
  · obtain ⟨v, d, rfl, D, hQ⟩ := h
    refine ⟨_, PSs.nox (pss_one (ps_ret (pe_callB call_isAT (by rfl) B.isinstance (by decide +kernel) (pa_cons (pv 0) (pa_cons (pe_tup (pa_cons (pe_bltn (v := .ty "list") (by rfl) B.list PyProof.Rows.Boot.«list» rfl) (pa_cons (pe_bltn (v := .ty "tuple") (by rfl) B.tuple PyProof.Rows.Boot.«tuple» rfl) pa_nil))) pa_nil))))), ?_⟩
    refine ⟨_, rfl, (by show 2 ≤ sizeLine; decide), fun t ht => ?_⟩
    refine ⟨_, t, _, _, d, _, rfl, upd_same, .cons (.ty _) (.cons (.ty _) .nil), ?_, isSeq_kit d, hQ _ (same_new ht)⟩
    exact dpX_same (same_new ht) D
end

end K17
end
section
set_option Elab.async false
set_option linter.all false
set_option maxRecDepth 100000
set_option maxHeartbeats 4000000
namespace K17
open PySem PySem.Spec PyProof.Rows L2 PySem.EK
section
variable {P : Program} {w : World} {K : PySem.W.Frag} {mg : Str → Option Value} {base : Heap}
theorem sc_is_kind_of : FnScope ["value", "kinds"] ["value", "kinds"] (defScope s_is_kind_of) := ⟨rfl, rfl, rfl, by decide +kernel, rfl, by decide +kernel, by decide +kernel⟩
theorem c_is_kind_of (h : Def K mg "is_kind_of" s_is_kind_of) (B : Bl mg) : Cal P w K mg base CX0 1 "is_kind_of" ["value", "kinds"] (spKindOf P w K) := by
  refine cal_of h sc_is_kind_of (fun vs H Q E h => ?_) (fun _ _ _ _ _ _ us hl => match us, hl with | [_, _], _ => rfl) (fun f cdv A outer s H vs Q E hr h => ?_)
  · obtain ⟨v, d, a, xs, ds, rfl, _⟩ := h
    rfl
  · obtain ⟨v, d, a, xs, ds, rfl, D, hs, DA, hQ⟩ := h
    refine ⟨_, PSs.nox (pss_one (ps_ret (pe_and (pe_callB call_isA (by rfl) B.isinstance (by decide +kernel) (pa_cons (pv 0) (pa_cons (pe_bltn (v := .ty "str") (by rfl) B.str PyProof.Rows.Boot.«str» rfl) pa_nil))) (pe_one (pe_cmpR (op_inS (un_of hr)) (pv 0) (pv 1) (by rfl)))))), ?_⟩
    refine ⟨_, rfl, _, _, _, d, _, rfl, .ty _, D.x, kit_d (by simp) d, _, rfl, ?_⟩
    cases hd : isT "str" d with
    | false =>
      have e : kindOfD ds d = false := by
        cases d with
        | str x => cases hd
        | _ => rfl
      refine iteF ?_
      rw [← e]
      exact hQ H (Same.refl H)
    | true =>
      obtain ⟨x, rfl⟩ : ∃ x, d = .str x := by
        cases d with
        | str x => exact ⟨x, rfl⟩
        | _ => cases hd
      have hv : v = .str x := by cases D; rfl
      subst hv
      refine iteT ?_
      refine ⟨_, rfl, _, rfl, x, a, xs, ds, rfl, rfl, hs, DA.x, ?_⟩
      have z := hQ H (Same.refl H)
      rw [show kindOfD ds (.str x) = hasS x xs from (hasS_D x DA).symm] at z
      exact z
theorem sc_are_names_to : FnScope ["value", "most", "name"] ["value", "most"] (defScope s_are_names_to) := ⟨rfl, rfl, rfl, by decide +kernel, rfl, by decide +kernel, by decide +kernel⟩
theorem walk_keysX {P : Program} {w : World} {d : Addr} {o : Obj} {u : HO} {es : List (MK × V)} (hu : DictU P w d u es) : Walk (Itx P w d o u es) es.length (fun H => H d = some (.frz o u)) (fun i H x H' => H' = H ∧ ∃ k v, es[i]? = some (k, v) ∧ x = k.v) :=
  ⟨fun _ _ hi q => ⟨q, hu, hi⟩, fun _ q => ⟨q, hu, Nat.le_refl _⟩, fun _ _ _ _ _ _ y => y⟩
theorem dictC_at {P : Program} {w : World} {H : Hp} {a : Addr} {es : List (MK × V)} (h : DictC P w H a es) (nf : ∀ o u, H a ≠ some (.frz o u)) : ∃ u, H a = some u ∧ DictU P w a u es ∧ Mut (some u) ∧ (∀ ys, u ≠ .tup ys) ∧ (∀ o v, u ≠ .frz o v) := by
  rcases h with ⟨kvs, h | ⟨o, h⟩, e⟩ | ⟨h | ⟨o, h⟩, e⟩
  · exact ⟨_, h, .inl ⟨kvs, rfl, e⟩, trivial, (fun _ z => nomatch z), (fun _ _ z => nomatch z)⟩
  · exact absurd h (nf _ _)
  · exact ⟨_, h, .inr rfl, trivial, (fun _ z => nomatch z), (fun _ _ z => nomatch z)⟩
  · exact absurd h (nf _ _)
theorem c_are_names_to (h : Def K mg "are_names_to" s_are_names_to) (B : Bl mg) (C_is_name : Cal P w K mg base CX0 1 "is_name" ["value"] (spName P w K)) : Cal P w K mg base CX0 2 "are_names_to" ["value", "most"] (spNamesTo P w K) := by
  refine cal_of h sc_are_names_to (fun vs H Q E h => ?_) (fun _ _ _ _ _ _ us hl => match us, hl with | [_, _], _ => rfl) (fun f cdv A outer s H vs Q E hr h => ?_)
  · obtain ⟨v, d, a, rfl, _⟩ := h
    rfl
  · obtain ⟨v, d, most, rfl, hmost, D, nf, hQ⟩ := h
    refine ⟨_, PSs.nox (pss_one (ps_ret (pe_and (pe_callB call_isA (by rfl) B.isinstance (by decide +kernel) (pa_cons (pv 0) (pa_cons (pe_bltn (v := .ty "dict") (by rfl) B.dict PyProof.Rows.Boot.«dict» rfl) pa_nil))) (pe_and (pe_cmpR op_le (pe_callB call_lenX (by rfl) B.len (by decide +kernel) (pa_cons (pv 0) pa_nil)) (pv 1) (nomark _)) (pe_one (pe_lock (pe_callB (cr_all rfl) (by rfl) B.all (by decide +kernel) (pa_cons (pe_lc (own := [("name", 2)]) (by rfl) sc_are_names_to.nd (pi_keysX (pv 0)) (blkOk_by (own := [("name", 2)]) (N := ["value", "most", "name"]) (sc := defScope s_are_names_to) (by decide +kernel)) (fun _ _ _ _ _ => (pg_name (i := 2) sc_are_names_to.nd rfl (Or.inl rfl))) (fun _ _ _ _ _ => pts_nil) (fun _ _ _ _ _ => (pe_c C_is_name hr pass0 (pa_cons (pv 2) pa_nil)))) pa_nil)))))))), ?_⟩
    refine ⟨_, rfl, _, _, _, d, _, rfl, .ty _, D.x, kit_d (by simp) d, _, rfl, ?_⟩
    cases hd : isT "dict" d with
    | false =>
      have e : namesToD most d = false := by
        cases d with
        | dict x => cases hd
        | _ => rfl
      refine iteF ?_
      rw [← e]
      exact hQ H (Same.refl H)
    | true =>
      refine iteT ?_
      cases D with
      | @dct a es ds hc hlen hk he ha =>
      have hl : ds.length = es.length := by have := congrArg List.length he; simpa using this
      refine ⟨_, rfl, a, es, rfl, hc.v, _, rfl, _, _, rfl, rfl, _, rfl, ?_⟩
      by_cases hm : ((es.length : Nat) : Int) ≤ most
      · rw [decide_eq_true hm]
        refine iteT ?_
        obtain ⟨u, hu, hU, mu, nt, nz⟩ := dictC_at hc (nf a _ rfl rfl)
        refine ⟨a, u, hu, mu, fun od => ?_⟩
        refine ⟨_, rfl, a, od, u, es, rfl, upd_same, hU, fun D hD => ?_⟩
        refine lc_flt (walk_keysX hU) (fun Hx k => k a _ upd_same) hD ?_ (fun i => (es[i]?).map fun p => V.bl (isNameD p.1.d)) ?_ ?_
        · rw [sizeLine_eq]
          omega
        · rintro i x Hx Hy hi k ⟨rfl, m, v, hm, rfl⟩ Nx hN
          refine ⟨rfl, tYes_in ?_⟩
          have ko : KeyOk K Hy m := keyOk_same k (keyOk_lock (hk _ (List.mem_of_getElem? hm)) hu nt nz)
          refine ⟨_, rfl, _, m.d, rfl, key_dpX ko, ?_, fun H' k' => ?_⟩
          · intro x hx
            exact Nat.le_trans (ko.2.2 x (.inl hx)) big_line
          · have z := hN H' k'
            rw [hm] at z
            exact z
        · intro Hx k hDx
          have e1 : (List.range es.length).filterMap (fun i => (es[i]?).map fun p => V.bl (isNameD p.1.d)) = (es.map fun p => isNameD p.1.d).map V.bl := by
            rw [fm_all (F := fun p => some (V.bl (isNameD p.1.d))) (fun i x hx => by rw [hx]; rfl), List.map_map]
            simp [Function.comp_def]
          rw [e1] at hDx
          refine ⟨D, _, rfl, SqL.of hDx, k a _ upd_same, ?_⟩
          have z := hQ _ (same_unlock hu k)
          have e2 : namesToD most (.dict ds) = (es.map fun p => isNameD p.1.d).all id := by
            show (decide ((ds.length : Int) ≤ most) && ds.all fun p => isNameD p.1) = _
            rw [hl, decide_eq_true hm, Bool.true_and]
            have e3 : (ds.all fun p => isNameD p.1) = (ds.map (·.1)).all isNameD := by rw [List.all_map]; rfl
            rw [e3, he, List.all_map, List.all_map]
            rfl
          rw [e2] at z
          exact z
      · rw [decide_eq_false hm]
        refine iteF ?_
        have z := hQ H (Same.refl H)
        have e : namesToD most (.dict ds) = false := by
          show (decide ((ds.length : Int) ≤ most) && _) = false
          rw [hl, decide_eq_false hm]
          rfl
        rw [e] at z
        exact z
      | _ => cases hd
end

end K17
end
section
set_option Elab.async false
set_option linter.all false
set_option maxRecDepth 100000
set_option maxHeartbeats 4000000
namespace K17
open PySem PySem.Spec PyProof.Rows L2 PySem.EK

abbrev s_is_field : Stmt := top 16
abbrev s__law_is_field : Stmt := top 30
def isFieldD (ks : List PyData) : PyData → Bool
  | .tuple [k, t, b, o] => (kindOfD ks k && kindOfD ks t) && ((isT "NoneType" b || isNameD b) && isT "bool" o)
  | _ => false
def spField (P : Program) (w : World) (K : PySem.W.Frag) : Sp := fun vs H Q _ => ∃ (v : V) (d : PyData) (a : Addr) (xs : List V) (ds : List PyData), vs = [v, .ref a] ∧ DpC P w K H v d ∧ (SqL K H a xs ∨ SqT K H a xs) ∧ DpCAll P w K H xs ds ∧ ∀ H', Same H H' → Q (.bl (isFieldD ds d)) H'
def spLField (P : Program) (w : World) (K : PySem.W.Frag) : Sp := fun vs H Q E => match vs with
  | [a, v] => spField P w K [v, a] H Q E
  | _ => False
theorem four {α : Type} {l : List α} (h : l.length = 4) : ∃ a b c d, l = [a, b, c, d] := by
  match l, h with
  | [a, b, c, d], _ => exact ⟨a, b, c, d, rfl⟩
theorem not_four {ks ds : List PyData} (h : ds.length ≠ 4) : isFieldD ks (.tuple ds) = false := by
  unfold isFieldD
  split
  · rename_i e
    cases e
    exact absurd rfl h
  · rfl
theorem seqs_same {K : PySem.W.Frag} {H H' : Hp} (k : Same H H') {a : Addr} {xs : List V} (h : SqL K H a xs ∨ SqT K H a xs) : SqL K H' a xs ∨ SqT K H' a xs := h.imp k.seq (sqT_same k)
theorem all4 {P : Program} {w : World} {K : PySem.W.Frag} {H : Hp} {a b c d : V} {a' b' c' d' : PyData} (h : DpCAll P w K H [a, b, c, d] [a', b', c', d']) : DpC P w K H a a' ∧ DpC P w K H b b' ∧ DpC P w K H c c' ∧ DpC P w K H d d' := by
  cases h with
  | cons h1 h => cases h with
    | cons h2 h => cases h with
      | cons h3 h => cases h with
        | cons h4 h => exact ⟨h1, h2, h3, h4⟩
section
variable {P : Program} {w : World} {K : PySem.W.Frag} {mg : Str → Option Value} {base : Heap}
theorem non_iff {H : Hp} {v : V} {d : PyData} (h : DpC P w K H v d) : decide (v = .non) = isT "NoneType" d := by
  cases h <;> simp [isT, isTy, tyD]
theorem sc_is_field : FnScope ["value", "kinds", "kind", "target", "back", "is_alone"] ["value", "kinds"] (defScope s_is_field) := ⟨rfl, rfl, rfl, by decide +kernel, rfl, by decide +kernel, by decide +kernel⟩
theorem c_is_field (h : Def K mg "is_field" s_is_field) (B : Bl mg) (C_is_name : Cal P w K mg base CX0 1 "is_name" ["value"] (spName P w K)) (C_is_kind_of : Cal P w K mg base CX0 1 "is_kind_of" ["value", "kinds"] (spKindOf P w K)) :
    Cal P w K mg base CX0 2 "is_field" ["value", "kinds"] (spField P w K) := by
  refine cal_of h sc_is_field (fun vs H Q E h => ?_) (fun _ _ _ _ _ _ us hl => match us, hl with | [_, _], _ => rfl) (fun f cdv A outer s H vs Q E hr h => ?_)
  · obtain ⟨v, d, a, xs, ds, rfl, _⟩ := h
    rfl
  · obtain ⟨v, d, a, xs, ds, rfl, D, hs, DA, hQ⟩ := h
    refine ⟨_, PSs.nox (pss_cons (ps_if (PW.pt (pw_or (pt_not (pt_val (pe_callB call_isA (by rfl) B.isinstance (by decide +kernel) (pa_cons (pv 0) (pa_cons (pe_bltn (v := .ty "tuple") (by rfl) B.tuple PyProof.Rows.Boot.«tuple» rfl) pa_nil))))) (pw_or1 (pt_cmpR op_ne (pe_callB call_len_seq (by rfl) B.len (by decide +kernel) (pa_cons (pv 0) pa_nil)) pe_int (nomark _))))) (pss_one (ps_ret pe_bl)) pss_nil)
      (pss_cons (ps_asg (pv 0) (pg_tup (by rfl) (pgs_cons (pg_name (i := 2) sc_is_field.nd rfl (Or.inl rfl)) (pgs_cons (pg_name (i := 3) sc_is_field.nd rfl (Or.inl rfl)) (pgs_cons (pg_name (i := 4) sc_is_field.nd rfl (Or.inl rfl)) (pgs_cons (pg_name (i := 5) sc_is_field.nd rfl (Or.inl rfl)) pgs_nil))))))
      (pss_cons (ps_if (PW.pt (pw_or (pt_not (pt_val (pe_c C_is_kind_of hr pass0 (pa_cons (pv 2) (pa_cons (pv 1) pa_nil))))) (pw_or1 (pt_not (pt_val (pe_c C_is_kind_of hr pass0 (pa_cons (pv 3) (pa_cons (pv 1) pa_nil)))))))) (pss_one (ps_ret pe_bl)) pss_nil)
      (pss_one (ps_ret (pe_and (pe_or (pe_cmpR op_isN (pv 4) pe_non (nomark _)) (pe_one (pe_c C_is_name hr pass0 (pa_cons (pv 4) pa_nil)))) (pe_one (pe_callB call_isA (by rfl) B.isinstance (by decide +kernel) (pa_cons (pv 5) (pa_cons (pe_bltn (v := .ty "bool") (by rfl) B.bool PyProof.Rows.Boot.«bool» rfl) pa_nil)))))))))), ?_⟩
    refine ⟨_, rfl, _, _, _, d, _, rfl, .ty _, D.x, kit_d (by simp) d, _, rfl, ?_⟩
    have no : isFieldD ds d = false → ∀ H', Same H H' → Q (.bl false) H' := fun e H' k => by
      have z := hQ H' k
      rw [e] at z
      exact z
    cases hd : isT "tuple" d with
    | false =>
      refine iteT ?_
      refine iteT ?_
      refine no ?_ H (Same.refl H)
      cases d with
      | tuple x => cases hd
      | _ => rfl
    | true =>
      refine iteF ?_
      cases D with
      | @tup a4 ys es hsq hln DA4 =>
      refine ⟨_, rfl, a4, ys, rfl, .inr hsq, rfl, _, rfl, ?_⟩
      have hle : ys.length = es.length := DA4.length
      by_cases h4 : ys.length = 4
      · rw [show (!decide (V.int (ys.length : Int) = V.int 4)) = false by simp [h4]]
        refine iteF ?_
        obtain ⟨y0, y1, y2, y3, rfl⟩ := four h4
        refine ⟨_, rfl, a4, _, rfl, hsq, rfl, ?_⟩
        refine ⟨_, _, rfl, _, _, rfl, _, _, rfl, _, _, rfl, rfl, ?_⟩
        obtain ⟨d0, d1, d2, d3, rfl⟩ := four (hle.symm.trans h4)
        obtain ⟨D0, D1, D2, D3⟩ := all4 DA4
        refine ⟨_, rfl, _, rfl, _, d0, a, xs, ds, rfl, D0, hs, DA, fun H1 k1 => ⟨_, rfl, ?_⟩⟩
        cases b0 : kindOfD ds d0 with
        | false =>
          refine iteT (iteT (no ?_ H1 k1))
          simp [isFieldD, b0]
        | true =>
          refine iteF ?_
          refine ⟨_, rfl, _, rfl, _, d1, a, xs, ds, rfl, D1.same k1, seqs_same k1 hs, DA.same k1, fun H2 k2' => ⟨_, rfl, ?_⟩⟩
          have k2 := k1.trans k2'
          cases b1 : kindOfD ds d1 with
          | false =>
            refine iteT (no ?_ H2 k2)
            simp [isFieldD, b0, b1]
          | true =>
            refine iteF ?_
            have e4 : isFieldD ds (.tuple [d0, d1, d2, d3]) = ((isT "NoneType" d2 || isNameD d2) && isT "bool" d3) := by simp [isFieldD, b0, b1]
            rw [e4] at hQ no
            refine ⟨_, rfl, rfl, _, rfl, ?_⟩
            rw [non_iff D2]
            cases b2 : isT "NoneType" d2 with
            | true =>
              refine iteT ?_
              refine ⟨_, rfl, iteT ?_⟩
              refine ⟨_, rfl, _, _, _, d3, _, rfl, .ty _, (D3.same k2).x, kit_d (by simp) d3, ?_⟩
              have z := hQ H2 k2
              rw [b2] at z
              exact z
            | false =>
              refine iteF ?_
              refine ⟨_, rfl, _, d2, rfl, (D2.same k2).x, D2.txt, fun H3 k3' => ⟨_, rfl, ?_⟩⟩
              have k3 := k2.trans k3'
              have z := hQ H3 k3
              rw [b2, Bool.false_or] at z
              cases b3 : isNameD d2 with
              | false =>
                rw [b3] at z
                exact iteF z
              | true =>
                rw [b3] at z
                refine iteT ?_
                exact ⟨_, rfl, _, _, _, d3, _, rfl, .ty _, (D3.same k3).x, kit_d (by simp) d3, z⟩
      · rw [show (!decide (V.int (ys.length : Int) = V.int 4)) = true by simp; omega]
        refine iteT (no (not_four (by omega)) H (Same.refl H))
      | _ => cases hd
end

end K17
end
section
set_option Elab.async false
set_option linter.all false
set_option maxRecDepth 100000
set_option maxHeartbeats 4000000
/-! EKM16: the same rules told by program, world and written part (for use within a comprehension) -/
namespace L2
open PySem PySem.Spec PyProof.Rows PySem.EK
section
variable {X : Cx} (P : Program) (w : World) (K : PySem.W.Frag)
def rIsA2 : List V → Hp → VK → Prop := fun xs H Q => ∃ (v c : V) (u : Value) (d : PyData) (b : Bool), xs = [v, c] ∧ ClsV c u ∧ DpX P w K H v d ∧ PySem.W.kitOne K (.type (tyD d)) u = some b ∧ Q (.bl b) H
theorem call_isK (hP : X.prog = P := by rfl) (hw : X.w = w := by rfl) (hK : X.K = K := by rfl) : CallR X (.builtin "isinstance") (rIsA2 P w K) := by
  subst hP hw hK
  exact call_isA
def rInS2 (neg : Bool) : R2 := fun x y H Q => ∃ (z : Str) (p : Addr) (xs : List V) (ds : List PyData), x = .str z ∧ y = .ref p ∧ (SqL K H p xs ∨ SqT K H p xs) ∧ DpXAll P w K H xs ds ∧ Q (.bl (if neg then !hasS z xs else hasS z xs)) H
theorem op_inK {k : Nat} (hr : Room k X.A) (hP : X.prog = P := by rfl) (hw : X.w = w := by rfl) (hK : X.K = K := by rfl) : OpR X (compareOp .In) (rInS2 P w K false) := by
  subst hP hw hK
  exact op_inS (un_of hr)
theorem op_notInK {k : Nat} (hr : Room k X.A) (hP : X.prog = P := by rfl) (hw : X.w = w := by rfl) (hK : X.K = K := by rfl) : OpR X (compareOp .NotIn) (rInS2 P w K true) := by
  subst hP hw hK
  exact op_notInS (un_of hr)
def tDGetK (td ty : TE) : TE := fun σ H Q => td σ H fun x H1 => ty σ H1 fun y H2 => ∃ (a : Addr) (es : List (MK × V)) (m : MK) (v : V), x = .ref a ∧ y = m.v ∧ DictV P w H2 a es ∧ (∀ p ∈ es, p.1.ok K H2 ∧ p.1.n.isSome = true) ∧ m.ok K H2 ∧ m.n.isSome = true ∧ valM es m.n = some v ∧ Q v H2
theorem pe_dgetK {k : Nat} {o i : Expr} {td ty : TE} {pos : Pos} (hr : Room k X.A) (ho : PE X o td) (hi : PE X i ty) (hs : NoSl i) (hP : X.prog = P := by rfl) (hw : X.w = w := by rfl) (hK : X.K = K := by rfl) : PE X (.Subscript o i pos) (tDGetK P w K td ty) := by
  subst hP hw hK
  exact pe_dgetM (un_of hr) ho hi hs
def rLenX2 : List V → Hp → VK → Prop := fun xs H Q => ∃ (a : Addr) (es : List (MK × V)), xs = [.ref a] ∧ DictV P w H a es ∧ Q (.int ((es.length : Nat) : Int)) H
end
end L2
end
section
set_option Elab.async false
set_option linter.all false
set_option maxRecDepth 100000
set_option maxHeartbeats 4000000
namespace K17
open PySem PySem.Spec PyProof.Rows L2 PySem.EK

section
variable {P : Program} {w : World} {K : PySem.W.Frag} {mg : Str → Option Value} {base : Heap}
theorem sc__law_is_field : FnScope ["_law_breeds", "_law_value", "_law_one"] ["_law_breeds", "_law_value"] (defScope s__law_is_field) := ⟨rfl, rfl, rfl, by decide +kernel, rfl, by decide +kernel, by decide +kernel⟩
theorem c__law_is_field (h : Def K mg "_law_is_field" s__law_is_field) (B : Bl mg) (C__law_is_name : Cal P w K mg base CX0 1 "_law_is_name" ["_law_value"] (spName P w K)) :
    Cal P w K mg base CX0 2 "_law_is_field" ["_law_breeds", "_law_value"] (spLField P w K) := by
  refine cal_of h sc__law_is_field (fun vs H Q E h => ?_) (fun _ _ _ _ _ _ us hl => match us, hl with | [_, _], _ => rfl) (fun f cdv A outer s H vs Q E hr h => ?_)
  · match vs, h with
    | [_, _], _ => rfl
  · obtain ⟨av, v, rfl⟩ : ∃ a v, vs = [a, v] := by
      match vs, h with
      | [a, v], _ => exact ⟨a, v, rfl⟩
    obtain ⟨v, d, a, xs, ds, e, D, hs, DA, hQ⟩ := (show spField P w K [v, av] H Q E from h)
    cases e
    refine ⟨_, PSs.nox (pss_cons (ps_if (PW.pt (pw_or (pt_not (pt_val (pe_callB call_isA (by rfl) B.isinstance (by decide +kernel) (pa_cons (pv 1) (pa_cons (pe_bltn (v := .ty "tuple") (by rfl) B.tuple PyProof.Rows.Boot.«tuple» rfl) pa_nil))))) (pw_or1 (pt_cmpR op_ne (pe_callB call_len_seq (by rfl) B.len (by decide +kernel) (pa_cons (pv 1) pa_nil)) pe_int (nomark _))))) (pss_one (ps_ret pe_bl)) pss_nil)
      (pss_cons (ps_if (pt_not (pt_val (pe_callB (cr_all rfl) (by rfl) B.all (by decide +kernel) (pa_cons (pe_lc (own := [("_law_one", 2)]) (by rfl) sc__law_is_field.nd (pi_tup (pe_slice sl_tup (pv 1) po_none (po_some pe_int))) (blkOk_by (own := [("_law_one", 2)]) (N := ["_law_breeds", "_law_value", "_law_one"]) (sc := defScope s__law_is_field) (by decide +kernel)) (fun _ _ _ _ _ => (pg_name (i := 2) sc__law_is_field.nd rfl (Or.inl rfl))) (fun _ _ _ _ _ => pts_nil) (fun _ _ _ _ _ => (pe_and (pe_callB (call_isK P w K) (by rfl) B.isinstance (by decide +kernel) (pa_cons (pv 2) (pa_cons (pe_bltn (v := .ty "str") (by rfl) B.str PyProof.Rows.Boot.«str» rfl) pa_nil))) (pe_one (pe_cmpR (op_inK P w K hr) (pv 2) (pv 0) (by rfl)))))) pa_nil)))) (pss_one (ps_ret pe_bl)) pss_nil)
      (pss_one (ps_ret (pe_and (pe_or (pe_cmpR op_isN (pe_ix ix_tup (pv 1) pe_int (fun _ _ => rfl)) pe_non (nomark _)) (pe_one (pe_c C__law_is_name hr pass0 (pa_cons (pe_ix ix_tup (pv 1) pe_int (fun _ _ => rfl)) pa_nil)))) (pe_one (pe_callB call_isA (by rfl) B.isinstance (by decide +kernel) (pa_cons (pe_ix ix_tup (pv 1) pe_int (fun _ _ => rfl)) (pa_cons (pe_bltn (v := .ty "bool") (by rfl) B.bool PyProof.Rows.Boot.«bool» rfl) pa_nil))))))))), ?_⟩
    refine ⟨_, rfl, _, _, _, d, _, rfl, .ty _, D.x, kit_d (by simp) d, _, rfl, ?_⟩
    have no : isFieldD ds d = false → ∀ H', Same H H' → Q (.bl false) H' := fun e H' k => by
      have z := hQ H' k
      rw [e] at z
      exact z
    cases hd : isT "tuple" d with
    | false =>
      refine iteT ?_
      refine iteT ?_
      refine no ?_ H (Same.refl H)
      cases d with
      | tuple x => cases hd
      | _ => rfl
    | true =>
      refine iteF ?_
      cases D with
      | @tup a4 ys es hsq hln DA4 =>
      refine ⟨_, rfl, a4, ys, rfl, .inr hsq, rfl, _, rfl, ?_⟩
      have hle : ys.length = es.length := DA4.length
      by_cases h4 : ys.length = 4
      · rw [show (!decide (V.int (ys.length : Int) = V.int 4)) = false by simp [h4]]
        refine iteF ?_
        obtain ⟨y0, y1, y2, y3, rfl⟩ := four h4
        obtain ⟨d0, d1, d2, d3, rfl⟩ := four (hle.symm.trans h4)
        obtain ⟨D0, D1, D2, D3⟩ := all4 DA4
        refine ⟨_, rfl, _, rfl, a4, _, rfl, hsq, ?_, fun t ht => ?_⟩
        · show ¬ (HT.sIx 4 0 none = 0 ∧ HT.sIx 4 4 (some 2) = 4)
          decide
        have ec : cutV [y0, y1, y2, y3] none (some 2) = [y0, y1] := rfl
        rw [ec]
        refine ⟨t, rfl, ⟨_, SqT.of upd_same⟩, fun D hD => ?_⟩
        have k0 : Same H (upd H t (.tup [y0, y1])) := same_new ht
        have turn : ∀ (y : V) (d : PyData) (Hx : Hp) (Nx : Option V → Hp → Prop), DpC P w K H y d → Same H Hx → (∀ H'', Same Hx H'' → Nx (some (.bl (kindOfD ds d))) H'') →
            tAndV (tCB (rIsA2 P w K) (tCons (tVar 2) (tCons (tC (.ty "str")) tNil))) (tOp (rInS2 P w K false) (tVar 2) (tVar 0)) [some (.ref a), some (.ref a4), some y] Hx (fun y H4 => Nx (some y) H4) := by
          intro y d Hx Nx Dy k hN
          refine ⟨_, rfl, _, _, _, d, _, rfl, .ty _, (Dy.same k).x, kit_d (by simp) d, _, rfl, ?_⟩
          cases hd : isT "str" d with
          | false =>
            have e : kindOfD ds d = false := by
              cases d with
              | str x => cases hd
              | _ => rfl
            refine iteF ?_
            have z := hN Hx (Same.refl _)
            rw [e] at z
            exact z
          | true =>
            obtain ⟨x, rfl⟩ : ∃ x, d = .str x := by
              cases d with
              | str x => exact ⟨x, rfl⟩
              | _ => cases hd
            have hv : y = .str x := by cases Dy; rfl
            subst hv
            refine iteT ?_
            refine ⟨_, rfl, _, rfl, x, a, xs, ds, rfl, rfl, seqs_same k hs, (DA.same k).x, ?_⟩
            have z := hN Hx (Same.refl _)
            rw [show kindOfD ds (.str x) = hasS x xs from (hasS_D x DA).symm] at z
            exact z
        refine lc_flt walk_tup (fun Hx k => sqT_same k (SqT.of upd_same)) hD (by show 2 ≤ sizeLine; decide) (fun i => match i with | 0 => some (.bl (kindOfD ds d0)) | _ => some (.bl (kindOfD ds d1))) ?_ ?_
        · rintro i x Hx Hy hi k ⟨rfl, hx⟩ Nx hN
          refine ⟨rfl, tYes_in ?_⟩
          match i, hi with
          | 0, _ =>
            cases hx
            exact turn y0 d0 _ Nx D0 (k0.trans k) hN
          | 1, _ =>
            cases hx
            exact turn y1 d1 _ Nx D1 (k0.trans k) hN
        · intro Hx k hDx
          refine ⟨D, [kindOfD ds d0, kindOfD ds d1], rfl, SqL.of hDx, _, rfl, ?_⟩
          have kx := k0.trans k
          have e4 : isFieldD ds (.tuple [d0, d1, d2, d3]) = ([kindOfD ds d0, kindOfD ds d1].all id && ((isT "NoneType" d2 || isNameD d2) && isT "bool" d3)) := by simp [isFieldD]
          cases b0 : [kindOfD ds d0, kindOfD ds d1].all id with
          | false =>
            refine iteT (no ?_ Hx kx)
            rw [e4, b0]
            rfl
          | true =>
            rw [e4, b0, Bool.true_and] at hQ
            refine iteF ?_
            have q2 : ∀ {Hz : Hp}, Same H Hz → SqT K Hz a4 [y0, y1, y2, y3] := fun k => sqT_same k hsq
            refine ⟨_, rfl, a4, _, _, _, rfl, rfl, q2 kx, rfl, rfl, _, rfl, ?_⟩
            rw [non_iff D2]
            cases b2 : isT "NoneType" d2 with
            | true =>
              refine iteT ?_
              refine ⟨_, rfl, iteT ?_⟩
              refine ⟨_, rfl, a4, _, _, _, rfl, rfl, q2 kx, rfl, _, _, _, d3, _, rfl, .ty _, (D3.same kx).x, kit_d (by simp) d3, ?_⟩
              have z := hQ Hx kx
              rw [b2] at z
              exact z
            | false =>
              refine iteF ?_
              refine ⟨_, rfl, a4, _, _, _, rfl, rfl, q2 kx, rfl, _, d2, rfl, (D2.same kx).x, D2.txt, fun H3 k3' => ⟨_, rfl, ?_⟩⟩
              have k3 := kx.trans k3'
              have z := hQ H3 k3
              rw [b2, Bool.false_or] at z
              cases b3 : isNameD d2 with
              | false =>
                rw [b3] at z
                exact iteF z
              | true =>
                rw [b3] at z
                refine iteT ?_
                exact ⟨_, rfl, a4, _, _, _, rfl, rfl, q2 k3, rfl, _, _, _, d3, _, rfl, .ty _, (D3.same k3).x, kit_d (by simp) d3, z⟩
      · rw [show (!decide (V.int (ys.length : Int) = V.int 4)) = true by simp; omega]
        refine iteT (no (not_four (by omega)) H (Same.refl H))
      | _ => cases hd
end

end K17
end
section
set_option Elab.async false
set_option linter.all false
set_option maxRecDepth 100000
set_option maxHeartbeats 4000000
/-! EKE1: enumerate of a tuple, of a list or a tuple -/
namespace L2
open PySem PySem.Spec PyProof.Rows PySem.EK
/-- the cell of an enumerate at its start -/
abbrev enumCell (it : Addr) : Obj := { cls := .type "enumerate", data := .fields #[.none, .bool false, .ref it, rawInt 0, .none, .none] }
theorem enum1_meets {v : Value} {ob : Obj} {HP : Heap → Prop} (bg : PySem.Begins v ob HP) :
    Meets (Builtin.«enumerate.__new__» ⟨[.type "enumerate", v], []⟩) (fun _ Rz s => HP s.heap ∧ Rz (.ok (.ret (.ref (s.heap.push ob).objs.size))) { s with heap := (s.heap.push ob).push (enumCell s.heap.objs.size) }) :=
  .of_wp fun prog w A Rz s hz => by
    obtain ⟨hp, gs, dr, tk, os⟩ := s
    obtain ⟨hb, hfin⟩ := hz
    have subE := sub_enumerate
    have itr : ∀ {A' : Around} {E : Value → Shared → Prop} {Q : Value → Shared → Prop}, Q (.ref hp.objs.size) ⟨hp.push ob, gs, dr, tk, os⟩ → wpAny (model prog w) A' (pyIter v) Q E ⟨hp, gs, dr, tk, os⟩ :=
      fun z => bg.iter prog w _ _ ⟨hp, gs, dr, tk, os⟩ _ hb z
    wp_walk using itr
    refine wpAny_stack_any fun stk => wpAny_pure ?_
    split
    · rename_i cc _ _ _ _ _
      cases (cc == Value.type "enumerate")
      all_goals
        wp_walk using itr
        exact ⟨_, rfl, hfin⟩
    · wp_walk using itr
      exact ⟨_, rfl, hfin⟩
section
variable {prog : Program} {w : World} {A : Around} {E : Value → Shared → Prop} {s : Shared}
theorem enum1_call {v : Value} {ob : Obj} {HP : Heap → Prop} {Q : Value → Shared → Prop} (bg : PySem.Begins v ob HP) (hb : HP s.heap)
    (fin : ∀ h', IsEnum h' (s.heap.objs.size + 1) s.heap.objs.size 0 .none → h'.get? s.heap.objs.size = some ob → (∀ b o, s.heap.get? b = some o → h'.get? b = some o) → Q (.ref (s.heap.objs.size + 1)) { s with heap := h' }) :
    wpAny (model prog w) A (call (.type "enumerate") [v]) Q E s := by
  refine callType_new F.called_enumerate (by decide) (F.typeCall_enumerate_1 _) (F.newCall_enumerate_1 _) (fun z => F.args_object_init_2 z _) F.entry_enumerate_new (enum1_meets bg) ⟨hb, ?_⟩
  have sz : (s.heap.push ob).objs.size = s.heap.objs.size + 1 := Heap.size_push ..
  show _ ∧ _
  rw [sz]
  have cell : IsEnum ((s.heap.push ob).push (enumCell s.heap.objs.size)) (s.heap.objs.size + 1) s.heap.objs.size 0 .none := by
    have z := Heap.get?_push_size (s.heap.push ob) (o := enumCell s.heap.objs.size) rfl
    rw [sz] at z
    exact z
  exact ⟨⟨_, cell, rfl⟩, fin _ cell (Heap.get?_push_of_some _ (Heap.get?_push_size _ bg.free)) fun b o z => Heap.get?_push_of_some _ (Heap.get?_push_of_some _ z)⟩
end
/-- the tuple at a, its items in new pairs -/
def IteT (K : PySem.W.Frag) (a : Addr) : It :=
  ⟨fun i H => ∃ (xs : List V) (x : V), SqT K H a xs ∧ xs[i]? = some x, fun i H v H' => ∃ T x, v = .ref T ∧ H T = none ∧ H' = upd H T (.tup [.int (i : Nat), x]) ∧ ∀ xs, SqT K H a xs → xs[i]? = some x, fun i H => ∃ xs : List V, SqT K H a xs ∧ xs.length = i⟩
theorem turn_enumT {P : Program} {w : World} {K : PySem.W.Frag} {elts : List Expr} {kk : Nat} {tpos : Pos} (a e it : Addr) :
    Turn P w K (.Tuple elts kk tpos) (IteT K a) [e, it] e (fun i h => (∃ old, IsEnum h e it ((i : Nat) : Int) old) ∧ h.IsTupleIter it a i ∧ e ≠ it ∧ a ≠ it ∧ e ≠ a) where
  mem := List.mem_cons_self
  obj := fun i h st b hb => by
    obtain ⟨⟨old, he⟩, ⟨o, ho, hc, hd⟩, _⟩ := st
    rcases (show b = e ∨ b = it by simpa using hb) with rfl | rfl
    · exact ⟨_, he, fun v q => nomatch q⟩
    · exact ⟨o, ho, fun v q => by rw [hd] at q; cases q⟩
  keep := fun i h h' st k => by
    obtain ⟨⟨old, he⟩, hi, hne⟩ := st
    exact ⟨⟨old, k e (by simp) _ he⟩, hi.at fun o q => k it (by simp) o q, hne⟩
  item := by
    intro X hP hw hK hc i pins s σ H E I hf st hg
    subst hP hw hK
    obtain ⟨⟨old, he⟩, hit, hne, hai, hea⟩ := st
    obtain ⟨xs, x, hq, hx⟩ := hg
    obtain ⟨its, rv, pt, hz⟩ := I.tuple hq
    obtain ⟨u, hu, ru⟩ := rv.get hx
    have le : e < s.heap.objs.size := Heap.lt_size he
    have li : it < s.heap.objs.size := by
      obtain ⟨_, q, _⟩ := hit
      exact Heap.lt_size q
    have hlt : i < its.toArray.size := by
      have := (List.getElem?_eq_some_iff.mp hu).1
      simpa using this
    refine wpAny_pyNext_enum_itemD (Draws.tuple (A := X.A.in1) (I.ok.hd hc) it a hai its.toArray) he ⟨hit, pt⟩ hlt hne (by simp [hne, hea]) fun y h1 tk hy out hst hT sz keep => ?_
    have ey : y = u := by
      have z : its.toArray[i]? = some u := by simpa using hu
      rw [z] at hy
      exact (Option.some.inj hy).symm
    subst ey
    refine ⟨_, rfl, wpAny_letOwnedTupleGo_enum (s := { s with heap := h1, toks := tk + 1 }) out fun h2 he2 sb => ?_⟩
    have hT2 : h2.get? s.heap.objs.size = some { cls := .type "tuple", data := .seq #[.int i tk, y] } := (sb.2 _ (Nat.ne_of_gt le)).trans hT
    have okT : ObjOk X.prog X.w (upd H s.heap.objs.size (.tup [.int (i : Nat), x])) h2 s.heap.objs.size (.tup [.int (i : Nat), x]) :=
      ⟨by show 2 ≤ sizeLine; decide, [.int i tk, y], .cons ⟨_, rfl⟩ (.cons ru .nil), ⟨_, hT2, rfl, _, rfl⟩⟩
    have J : Inv X pins σ (upd H s.heap.objs.size (.tup [.int (i : Nat), x])) { s with heap := h2, toks := tk + 1 } :=
      I.turnedNew (ch := [e, it]) (fun b ob hb q => (sb.2 b (fun z => hb (by simp [z]))).trans (keep b ob (fun z => hb (by simp [z])) (fun z => hb (by simp [z])) q)) hf (Nat.le_refl _) okT
    refine ⟨.ref s.heap.objs.size, _, J, rfl, ⟨_, x, rfl, I.hok.fresh (Nat.le_refl _), rfl, fun ys hy => ?_⟩, ⟨⟨y, ?_⟩, hst.1.at fun o q => (sb.2 it (Ne.symm hne)).trans q, hne, hai, hea⟩, fun b hb => ?_⟩
    · rw [I.tuple_inj hy hq]
      exact hx
    · rw [show ((i + 1 : Nat) : Int) = (i : Int) + 1 by omega]
      exact he2
    · have hb2 : b < s.heap.objs.size := by
        rcases (show b = e ∨ b = it by simpa using hb) with rfl | rfl
        · exact le
        · exact li
      rw [upd_ne (Nat.ne_of_lt hb2)]
      exact (hf b hb).1
  done := by
    intro X hP hw hK hc i pins s σ H E I hf st hg
    subst hP hw hK
    obtain ⟨⟨old, he⟩, hit, hne, hai, hea⟩ := st
    obtain ⟨xs, hq, hx⟩ := hg
    obtain ⟨its, rv, pt, hz⟩ := I.tuple hq
    obtain ⟨f0, f1, f2, f3, f4, f5⟩ := hf it (by simp)
    have hl : its.toArray.size = i := by
      rw [List.size_toArray, ← rv.length]
      exact hx
    refine wpAny_pyNext_enum_endD (Draws.tuple (A := X.A.in1) (I.ok.hd hc) it a hai its.toArray) he (by rw [hl]; exact ⟨hit, pt⟩) fun h1 eb => ⟨rfl, I.turned (t' := s.toks) (fun b o hb q => eb b o hb q) f0 f1 f3 f4 f5⟩
  self := fun A i s Q E st h => by
    obtain ⟨⟨_, he⟩, _⟩ := st
    exact wpAny_pyIter_enum he h
/-- enumerate of a list or a tuple -/
def iEnumS (K : PySem.W.Frag) (ta : TA) : TI := fun σ H R => ta σ H fun vs H1 => ∃ a xs, vs = [.ref a] ∧ ((SqL K H1 a xs ∧ R (Ite K a) H1) ∨ (SqT K H1 a xs ∧ R (IteT K a) H1))
theorem pi_enumS {X : Cx} {e : Expr} {ta : TA} {p pos tpos : Pos} {elts : List Expr} {kk : Nat} (hg : Gl X "enumerate") (hm : X.mg "enumerate" = none) (ha : PA X [e] ta) (hs : starEach [e] X.env = [(false, eval e X.env)] := by rfl) :
    PI X (.Tuple elts kk tpos) (.Call (.Name "enumerate" p) [e] [] pos) (iEnumS X.K ta) := by
  refine ⟨fun pins s σ H R I h => ?_⟩
  refine Call_ (ld_blt I hg hm boot_enumerate (PyProof.Rows.callWith_type1 (thn (ha.run pos pins s σ H _ I h) fun us sa ⟨vs, Ha, J, ra, qa⟩ => ?_) hs rfl))
  obtain ⟨a, xs, ex, hq⟩ := qa
  subst ex
  obtain ⟨u1, eu, r1⟩ := vals1 ra
  subst eu
  cases (show u1 = Value.ref a from r1)
  have fp : ∀ b ∈ [sa.heap.objs.size + 1, sa.heap.objs.size], sa.heap.objs.size ≤ b := fun b hb => by
    rcases (show b = sa.heap.objs.size + 1 ∨ b = sa.heap.objs.size by simpa using hb) with z | z
    · omega
    · omega
  rcases hq with ⟨hq, q⟩ | ⟨hq, q⟩
  · obtain ⟨its, rv, pl, hz⟩ := J.list hq
    refine call_enumerate_list pl.isList fun h1 he hit sz keep => wpAny_pyIter_enum he ?_
    exact ⟨sa.heap.objs.size + 1, [sa.heap.objs.size + 1, sa.heap.objs.size], _, _, Ha, rfl, J.kept (t' := sa.toks) keep, turn_enum a (sa.heap.objs.size + 1) sa.heap.objs.size, ⟨⟨.none, he⟩, hit, Nat.succ_ne_self _⟩, fun b hb => J.fpOk (fp b hb) (J.hok.fresh (fp b hb)), q⟩
  · obtain ⟨its, rv, pt, hz⟩ := J.tuple hq
    have la : a < sa.heap.objs.size := by
      obtain ⟨o, ho, _⟩ := pt
      exact Heap.lt_size ho
    refine enum1_call (PySem.begins_tuple a its.toArray) pt fun h1 he hit keep => wpAny_pyIter_enum he ?_
    exact ⟨sa.heap.objs.size + 1, [sa.heap.objs.size + 1, sa.heap.objs.size], _, _, Ha, rfl, J.kept (t' := sa.toks) keep, turn_enumT a (sa.heap.objs.size + 1) sa.heap.objs.size,
      ⟨⟨.none, he⟩, ⟨_, hit, rfl, rfl⟩, Nat.succ_ne_self _, Nat.ne_of_lt la, Nat.ne_of_gt (Nat.lt_succ_of_lt la)⟩, fun b hb => J.fpOk (fp b hb) (J.hok.fresh (fp b hb)), q⟩
theorem walk_enumT {K : PySem.W.Frag} {a : Addr} {xs : List V} : Walk (IteT K a) xs.length (fun H => SqT K H a xs) (YPair (fun i => some (.int (i : Nat))) (fun i => xs[i]?)) := by
  refine ⟨fun i _ hi q => ⟨xs, xs[i], q, by simp [hi]⟩, fun _ q => ⟨xs, q, rfl⟩, fun i H v H' _ q y => ?_⟩
  obtain ⟨T, x, h1, h2, h3, h4⟩ := y
  exact ⟨T, .int (i : Nat), x, h1, h2, h3, rfl, h4 xs q⟩
section
variable {X : Cx}
/-- x[lo:hi] of a list, or of a tuple where it is not the whole -/
theorem sl_seq : SlR X (fun x lo hi H Q => rSlL X.K x lo hi H Q ∨ rSlT X.K x lo hi H Q) := by
  intro pins s σ H x v vl vu lo hi sl Q I rx hs pl pu h
  rcases h with h | h
  · exact sl_list pins s σ H x v vl vu lo hi sl Q I rx hs pl pu h
  · exact sl_tup pins s σ H x v vl vu lo hi sl Q I rx hs pl pu h
end
end L2
end
section
set_option Elab.async false
set_option linter.all false
set_option maxRecDepth 100000
set_option maxHeartbeats 4000000
namespace K17
open PySem PySem.Spec PyProof.Rows L2 PySem.EK

def gPos {α : Type} (us _ws : List α) : List α := us
/-- an error class of one field -/
structure ErrC (P : Program) (K : PySem.W.Frag) (mg : Str → Option Value) (x f : Str) (C : Addr) : Prop where
  ex : ∃ fI B newId initId bmB rs fd, ErrT P K C fI B newId initId bmB rs [f] fd ∧ EB fd [f] 1 [] (@gPos)
  m : mg x = some (.ref C)
theorem pmk_e {X : Cx} {x f : Str} {C : Addr} {k : Nat} {p pos : Pos} {e : Expr} {ta : TA} (T : ErrC X.prog X.K X.mg x f C) (hS : X.mg ("super" : Str) = none) (hr : Room k X.A) (ha : PA X [e] ta) (hg : Gl X x := by rfl)
    (hdb : (x == ("__debug__" : Str)) = false := by decide) (he : starEach [e] X.env = (false, eval e X.env) :: starEach [] X.env := by rfl) :
    PMk X (.Call (.Name x p) [e] [] pos) (tMkE C [f] 1 (@gPos) ta) := by
  obtain ⟨fI, B, newId, initId, bmB, rs, fd, E, eb⟩ := T.ex
  exact pmk_err E eb (by simp) (by decide) hr hS hg T.m ha hdb he rfl
structure Errs (P : Program) (K : PySem.W.Frag) (mg : Str → Option Value) (CK CF CG : Addr) : Prop where
  kinds : ErrC P K mg "InvalidKinds" "position" CK
  fields : ErrC P K mg "InvalidFields" "name" CF
  flags : ErrC P K mg "InvalidFlags" "name" CG
structure Gm (mg : Str → Option Value) : Prop where
  kinds : ∃ t, mg "MOST_KINDS" = some (.int 6 t)
  fields : ∃ t, mg "MOST_FIELDS" = some (.int 12 t)
  flags : ∃ t, mg "MOST_FLAGS" = some (.int 12 t)
abbrev s_check_kinds : Stmt := top 15
abbrev s__law_kinds_due : Stmt := top 29
def seqOf : PyData → Option (List PyData)
  | .list l => some l
  | .tuple l => some l
  | _ => none
def strIn (ds : List PyData) : PyData → Bool
  | .str z => hasD z ds
  | _ => false
def kBad (ds : List PyData) (i : Nat) : Bool := match ds[i]? with
  | some d => !isNameD d || strIn (ds.take i) d
  | none => false
def kindsDue (d : PyData) : Option (Option Nat) := match seqOf d with
  | some ds => if 1 ≤ ds.length ∧ ds.length ≤ 6 then ((List.range ds.length).find? (kBad ds)).map some else some none
  | none => some none
def posV : Option Nat → V
  | none => .non
  | some i => .int (i : Nat)
/-- how a check ends: nothing is due, or an error of one field -/
def Ends1 {α : Type} (C : Addr) (f : Str) (g : α → V) (H : Hp) (Q : VK) (E : XK) : Option α → Prop
  | none => ∀ H', Same H H' → Q .non H'
  | some x => ∀ H' dd, Same H H' → H dd = none → H' dd = some (.xd [(f, g x)]) → E (.ref C) (some dd) H'
def spCkKinds (P : Program) (w : World) (K : PySem.W.Frag) (C : Addr) : Sp := fun vs H Q E => ∃ (v : V) (d : PyData), vs = [v] ∧ DpC P w K H v d ∧ Ends1 C "position" posV H Q E (kindsDue d)
theorem cut_take {xs : List V} {i : Nat} (h : i ≤ xs.length) : cutV xs none (some (i : Int)) = xs.take i := by
  unfold cutV
  rw [HT.sIx_none, HT.sIx_nat, Nat.min_eq_left h]
  simp
theorem find_range {p : Nat → Bool} {n i : Nat} (hi : i < n) (hp : p i = true) (hj : ∀ j < i, p j = false) : (List.range n).find? p = some i := by
  rw [List.find?_range_eq_some]
  exact ⟨hp, by simpa using hi, fun j h => by simp [hj j h]⟩
theorem find_range_none {p : Nat → Bool} {n : Nat} (hj : ∀ j < n, p j = false) : (List.range n).find? p = none := by
  rw [List.find?_eq_none]
  intro x hx
  rw [hj x (List.mem_range.mp hx)]
  simp
section
variable {P : Program} {w : World} {K : PySem.W.Frag} {mg : Str → Option Value} {base : Heap} {CK CF CG : Addr}
theorem sc_check_kinds : FnScope ["kinds", "position", "kind"] ["kinds"] (defScope s_check_kinds) := ⟨rfl, rfl, rfl, by decide +kernel, rfl, by decide +kernel, by decide +kernel⟩
theorem c_check_kinds (h : Def K mg "check_kinds" s_check_kinds) (B : Bl mg) (T : Gm mg) (R : Errs P K mg CK CF CG) (C_is_name : Cal P w K mg base CX0 1 "is_name" ["value"] (spName P w K)) (C_is_sequence : Cal P w K mg base CX0 1 "is_sequence" ["value"] (spSeq P w K)) :
    Cal P w K mg base (CX P w) 2 "check_kinds" ["kinds"] (spCkKinds P w K CK) := by
  obtain ⟨tm, hm⟩ := T.kinds
  refine cal_of h sc_check_kinds (fun vs H Q E h => ?_) (fun _ _ _ _ _ _ us hl => match us, hl with | [_], _ => rfl) (fun f cdv A outer s H vs Q E hr h => ?_)
  · obtain ⟨v, d, rfl, _⟩ := h
    rfl
  · obtain ⟨v, d, rfl, D, hQ⟩ := h
    refine ⟨_, (pss_cons (ps_if (PW.pt (pw_or (pt_not (pt_val (pe_c C_is_sequence hr pass0 (pa_cons (pv 0) pa_nil)))) (pw_or1 (pt_not (pt_chain op_le op_le pe_int (pe_callB call_len_seq (by rfl) B.len (by decide +kernel) (pa_cons (pv 0) pa_nil)) (pe_glob (v := .int 6) (by rfl) hm ⟨_, rfl⟩)))))) (pss_one (ps_raise rfl (takes_of rfl rfl rfl rfl) (pmk_e R.kinds B.super hr (pa_cons pe_non pa_nil)))) pss_nil)
      (pss_one (ps_for (passes_of rfl) rfl (pi_enumS (by rfl) B.enumerate (pa_cons (pv 0) pa_nil)) (pg_tup (by rfl) (pgs_cons (pg_name (i := 1) sc_check_kinds.nd rfl (Or.inl rfl)) (pgs_cons (pg_name (i := 2) sc_check_kinds.nd rfl (Or.inl rfl)) pgs_nil))) (pss_one (ps_if (PW.pt (pw_or (pt_not (pt_val (pe_c C_is_name hr pass0 (pa_cons (pv 2) pa_nil)))) (pw_or1 (pt_cmpR (op_inS (un_of hr)) (pv 2) (pe_slice sl_seq (pv 0) po_none (po_some (pv 1))) (by rfl))))) (pss_one (ps_raise rfl (takes_of rfl rfl rfl rfl) (pmk_e R.kinds B.super hr (pa_cons (pv 1) pa_nil)))) pss_nil))))), ?_⟩
    have due : ∀ (x : Option Nat), kindsDue d = some x → ∀ H1, Same H H1 → ∀ dd, H1 dd = none → E (.ref CK) (some dd) (upd H1 dd (.xd [("position", posV x)])) := fun x e H1 k dd hd => by
      rw [e] at hQ
      exact hQ _ dd (k.trans (same_new hd)) (k.free hd) upd_same
    have none_due : kindsDue d = none → ∀ H1, Same H H1 → Q .non H1 := fun e H1 k => by
      rw [e] at hQ
      exact hQ H1 k
    refine ⟨_, rfl, _, d, rfl, D.x, fun H1 k1 => ⟨_, rfl, ?_⟩⟩
    cases hs : seqOf d with
    | none =>
      have e : isSeqD d = false := by cases d <;> first | rfl | cases hs
      rw [e]
      refine iteT (iteT ⟨rfl, rfl, fun dd hd => due none ?_ H1 k1 dd hd⟩)
      simp [kindsDue, hs]
    | some ds =>
      have e : isSeqD d = true := by cases d <;> first | rfl | cases hs
      obtain ⟨a, xs, rfl, hsq, hbig, DA⟩ : ∃ a xs, v = .ref a ∧ (SqL K H a xs ∨ SqT K H a xs) ∧ xs.length ≤ big ∧ DpCAll P w K H xs ds := by
        cases D with
        | lst h1 h2 h3 => cases hs; exact ⟨_, _, rfl, .inl h1, h2, h3⟩
        | tup h1 h2 h3 => cases hs; exact ⟨_, _, rfl, .inr h1, h2, h3⟩
        | _ => cases hs
      have hlen : xs.length = ds.length := DA.length
      rw [e]
      refine iteF ?_
      refine ⟨_, rfl, a, xs, rfl, seqs_same k1 hsq, _, _, rfl, rfl, _, rfl, ?_⟩
      have bad : ¬ (1 ≤ ds.length ∧ ds.length ≤ 6) → kindsDue d = some none := fun h => by simp only [kindsDue, hs, if_neg h]
      by_cases h1 : 1 ≤ (xs.length : Int)
      · rw [decide_eq_true h1]
        refine iteT ⟨_, _, rfl, rfl, _, rfl, ?_⟩
        by_cases h2 : (xs.length : Int) ≤ 6
        · rw [decide_eq_true h2]
          refine iteF ?_
          have good : kindsDue d = ((List.range ds.length).find? (kBad ds)).map some := by
            simp only [kindsDue, hs]
            rw [if_pos (by omega)]
          refine ⟨_, rfl, a, xs, rfl, ?_⟩
          rcases hsq with hsq | hsq
          all_goals
            first
              | refine .inl ⟨k1.seq hsq, for_it (walk_enum (xs := xs)) (fun i σ Hc => Same H Hc ∧ (∀ j < i, kBad ds j = false) ∧ ∃ s1 s2, σ = [some (.ref a), s1, s2]) ?h0 ?hG ?hs ?hd⟩
              | refine .inr ⟨sqT_same k1 hsq, for_it (walk_enumT (xs := xs)) (fun i σ Hc => Same H Hc ∧ (∀ j < i, kBad ds j = false) ∧ ∃ s1 s2, σ = [some (.ref a), s1, s2]) ?h0 ?hG ?hs ?hd⟩
            case h0 => exact ⟨k1, fun j hj => absurd hj (Nat.not_lt_zero j), _, _, rfl⟩
            case hG => exact fun i σ Hx _ p => by first | exact p.1.seq hsq | exact sqT_same p.1 hsq
            case hd =>
              rintro σ Hx ⟨k, hj, _⟩
              refine none_due ?_ Hx k
              rw [good, find_range_none (fun j h => hj j (by omega))]
              rfl
            case hs =>
              rintro i x σ Hc H' hi ⟨k, hj, s1, s2, rfl⟩ ⟨T, x', y, rfl, hT, rfl, hx, hy⟩
              cases hx
              obtain ⟨dy, hdy, Dy⟩ := DA.at hy
              have kT : Same H (upd Hc T (.tup [.int (i : Nat), y])) := k.trans (same_new hT)
              refine ⟨T, _, rfl, SqT.of upd_same, rfl, _, _, rfl, _, _, rfl, rfl, ?_⟩
              refine ⟨_, rfl, _, dy, rfl, (Dy.same kT).x, Dy.txt, fun H2 k2' => ⟨_, rfl, ?_⟩⟩
              have k2 := kT.trans k2'
              have hid : i < ds.length := by omega
              cases hb : isNameD dy with
              | false =>
                refine iteT (iteT ⟨_, rfl, rfl, rfl, fun dd hd => due (some i) ?_ H2 k2 dd hd⟩)
                rw [good, find_range hid (by simp [kBad, hdy, hb]) hj]
                rfl
              | true =>
                obtain ⟨z, rfl⟩ : ∃ z, dy = .str z := by cases dy <;> first | exact ⟨_, rfl⟩ | cases hb
                have hv : y = .str z := by cases Dy; rfl
                subst hv
                refine iteF ?_
                have ek : kBad ds i = hasD z (ds.take i) := by simp [kBad, hdy, hb, strIn]
                first
                  | (refine ⟨_, rfl, _, rfl, _, rfl, _, rfl, .inl ⟨a, xs, rfl, k2.seq hsq, fun p hp => ?_⟩⟩
                     rw [cut_take (by omega)]
                     have k3 : Same H (upd H2 p (.lst (xs.take i))) := k2.trans (same_new hp)
                     refine ⟨z, p, xs.take i, ds.take i, rfl, rfl, .inl (SqL.of upd_same), ((DA.take i).same k3).x, _, rfl, ?_⟩
                     rw [show (if false = true then !hasS z (xs.take i) else hasS z (xs.take i)) = hasD z (ds.take i) from hasS_D z (DA.take i)]
                     cases hh : hasD z (ds.take i) with
                     | true =>
                       refine iteT ⟨_, rfl, rfl, rfl, fun dd hd => due (some i) ?_ _ k3 dd hd⟩
                       rw [good, find_range hid (ek.trans hh) hj]
                       rfl
                     | false =>
                       refine iteF ⟨k3, fun j hlt => ?_, _, _, rfl⟩
                       by_cases e : j = i
                       · rw [e, ek, hh]
                       · exact hj j (by omega))
                  | (refine ⟨_, rfl, _, rfl, _, rfl, _, rfl, .inr ⟨a, xs, rfl, sqT_same k2 hsq, ?_, fun p hp => ?_⟩⟩
                     · rw [HT.sIx_none, HT.sIx_nat]
                       omega
                     rw [cut_take (by omega)]
                     have k3 : Same H (upd H2 p (.tup (xs.take i))) := k2.trans (same_new hp)
                     refine ⟨z, p, xs.take i, ds.take i, rfl, rfl, .inr (SqT.of upd_same), ((DA.take i).same k3).x, _, rfl, ?_⟩
                     rw [show (if false = true then !hasS z (xs.take i) else hasS z (xs.take i)) = hasD z (ds.take i) from hasS_D z (DA.take i)]
                     cases hh : hasD z (ds.take i) with
                     | true =>
                       refine iteT ⟨_, rfl, rfl, rfl, fun dd hd => due (some i) ?_ _ k3 dd hd⟩
                       rw [good, find_range hid (ek.trans hh) hj]
                       rfl
                     | false =>
                       refine iteF ⟨k3, fun j hlt => ?_, _, _, rfl⟩
                       by_cases e : j = i
                       · rw [e, ek, hh]
                       · exact hj j (by omega))
        · rw [decide_eq_false h2]
          exact iteT ⟨rfl, rfl, fun dd hd => due none (bad (by omega)) H1 k1 dd hd⟩
      · rw [decide_eq_false h1]
        exact iteF ⟨_, rfl, iteT ⟨rfl, rfl, fun dd hd => due none (bad (by omega)) H1 k1 dd hd⟩⟩
end

end K17
end
section
set_option Elab.async false
set_option linter.all false
set_option maxRecDepth 100000
set_option maxHeartbeats 4000000
namespace K17
open PySem PySem.Spec PyProof.Rows L2 PySem.EK

/-- what the law's own look tells -/
def Due1 {α : Type} (tag : Str) (g : α → V) (H : Hp) (Q : VK) : Option α → Prop
  | none => ∀ H', Same H H' → Q .non H'
  | some x => ∀ H' l, Same H H' → H l = none → H' l = some (.lst [.str tag, g x]) → Q (.ref l) H'
def spKindsDue (P : Program) (w : World) (K : PySem.W.Frag) : Sp := fun vs H Q _ => ∃ (v : V) (d : PyData), vs = [v] ∧ DpC P w K H v d ∧ Due1 "kinds" posV H Q (kindsDue d)
section
variable {P : Program} {w : World} {K : PySem.W.Frag} {mg : Str → Option Value} {base : Heap} {CK CF CG : Addr}
theorem sc__law_kinds_due : FnScope ["_law_breeds", "_law_at", "_law_kind"] ["_law_breeds"] (defScope s__law_kinds_due) := ⟨rfl, rfl, rfl, by decide +kernel, rfl, by decide +kernel, by decide +kernel⟩
theorem c__law_kinds_due (h : Def K mg "_law_kinds_due" s__law_kinds_due) (B : Bl mg) (C__law_is_name : Cal P w K mg base CX0 1 "_law_is_name" ["_law_value"] (spName P w K)) :
    Cal P w K mg base CX0 2 "_law_kinds_due" ["_law_breeds"] (spKindsDue P w K) := by
  refine cal_of h sc__law_kinds_due (fun vs H Q E h => ?_) (fun _ _ _ _ _ _ us hl => match us, hl with | [_], _ => rfl) (fun f cdv A outer s H vs Q E hr h => ?_)
  · obtain ⟨v, d, rfl, _⟩ := h
    rfl
  · obtain ⟨v, d, rfl, D, hQ⟩ := h
    refine ⟨_, PSs.nox (pss_cons (ps_if (PW.pt (pw_or (pt_not (pt_val (pe_callB call_isAT (by rfl) B.isinstance (by decide +kernel) (pa_cons (pv 0) (pa_cons (pe_tup (pa_cons (pe_bltn (v := .ty "list") (by rfl) B.list PyProof.Rows.Boot.«list» rfl) (pa_cons (pe_bltn (v := .ty "tuple") (by rfl) B.tuple PyProof.Rows.Boot.«tuple» rfl) pa_nil))) pa_nil))))) (pw_or1 (pt_not (pt_chain op_le op_le pe_int (pe_callB call_len_seq (by rfl) B.len (by decide +kernel) (pa_cons (pv 0) pa_nil)) pe_int))))) (pss_one (ps_ret (pe_lst (pa_cons pe_str (pa_cons pe_non pa_nil))))) pss_nil)
      (pss_cons (ps_for PassesOwn.never rfl (pi_enumS (by rfl) B.enumerate (pa_cons (pv 0) pa_nil)) (pg_tup (by rfl) (pgs_cons (pg_name (i := 1) sc__law_kinds_due.nd rfl (Or.inl rfl)) (pgs_cons (pg_name (i := 2) sc__law_kinds_due.nd rfl (Or.inl rfl)) pgs_nil))) (pss_one (ps_if (PW.pt (pw_or (pt_not (pt_val (pe_c C__law_is_name hr pass0 (pa_cons (pv 2) pa_nil)))) (pw_or1 (pt_cmpR (op_inS (un_of hr)) (pv 2) (pe_slice sl_list (pe_callTy call_list_of (by rfl) B.list (by decide +kernel) (pa_cons (pv 0) pa_nil)) po_none (po_some (pv 1))) (by rfl))))) (pss_one (ps_ret (pe_lst (pa_cons pe_str (pa_cons (pv 1) pa_nil))))) pss_nil)))
      (pss_one (ps_ret pe_non)))), ?_⟩
    have due : ∀ (x : Option Nat), kindsDue d = some x → ∀ H1, Same H H1 → ∀ dd, H1 dd = none → Q (.ref dd) (upd H1 dd (.lst [.str "kinds", posV x])) := fun x e H1 k dd hd => by
      rw [e] at hQ
      exact hQ _ dd (k.trans (same_new hd)) (k.free hd) upd_same
    have none_due : kindsDue d = none → ∀ H1, Same H H1 → Q .non H1 := fun e H1 k => by
      rw [e] at hQ
      exact hQ H1 k
    refine ⟨_, rfl, (by show 2 ≤ sizeLine; decide), fun t ht => ?_⟩
    have k1 : Same H (upd H t (.tup [V.ty "list", V.ty "tuple"])) := same_new ht
    refine ⟨_, t, _, _, d, _, rfl, upd_same, .cons (.ty _) (.cons (.ty _) .nil), (D.same k1).x, isSeq_kit d, _, rfl, ?_⟩
    revert k1
    generalize upd H t (.tup [V.ty "list", V.ty "tuple"]) = H1
    intro k1
    cases hs : seqOf d with
    | none =>
      have e : isSeqD d = false := by cases d <;> first | rfl | cases hs
      rw [e]
      refine iteT (iteT ⟨(by show 2 ≤ sizeLine; decide), fun dd hd => due none ?_ H1 k1 dd hd⟩)
      simp [kindsDue, hs]
    | some ds =>
      have e : isSeqD d = true := by cases d <;> first | rfl | cases hs
      obtain ⟨a, xs, rfl, hsq, hbig, DA⟩ : ∃ a xs, v = .ref a ∧ (SqL K H a xs ∨ SqT K H a xs) ∧ xs.length ≤ big ∧ DpCAll P w K H xs ds := by
        cases D with
        | lst h1 h2 h3 => cases hs; exact ⟨_, _, rfl, .inl h1, h2, h3⟩
        | tup h1 h2 h3 => cases hs; exact ⟨_, _, rfl, .inr h1, h2, h3⟩
        | _ => cases hs
      have hlen : xs.length = ds.length := DA.length
      rw [e]
      refine iteF ?_
      refine ⟨_, rfl, a, xs, rfl, seqs_same k1 hsq, _, _, rfl, rfl, _, rfl, ?_⟩
      have bad : ¬ (1 ≤ ds.length ∧ ds.length ≤ 6) → kindsDue d = some none := fun h => by simp only [kindsDue, hs, if_neg h]
      by_cases h1 : 1 ≤ (xs.length : Int)
      · rw [decide_eq_true h1]
        refine iteT ⟨_, _, rfl, rfl, _, rfl, ?_⟩
        by_cases h2 : (xs.length : Int) ≤ 6
        · rw [decide_eq_true h2]
          refine iteF ?_
          have good : kindsDue d = ((List.range ds.length).find? (kBad ds)).map some := by
            simp only [kindsDue, hs]
            rw [if_pos (by omega)]
          refine ⟨_, rfl, a, xs, rfl, ?_⟩
          have hsq0 := hsq
          rcases hsq with hsq | hsq
          all_goals
            first
              | refine .inl ⟨k1.seq hsq, for_it (walk_enum (xs := xs)) (fun i σ Hc => Same H Hc ∧ (∀ j < i, kBad ds j = false) ∧ ∃ s1 s2, σ = [some (.ref a), s1, s2]) ?h0 ?hG ?hs ?hd⟩
              | refine .inr ⟨sqT_same k1 hsq, for_it (walk_enumT (xs := xs)) (fun i σ Hc => Same H Hc ∧ (∀ j < i, kBad ds j = false) ∧ ∃ s1 s2, σ = [some (.ref a), s1, s2]) ?h0 ?hG ?hs ?hd⟩
            case h0 => exact ⟨k1, fun j hj => absurd hj (Nat.not_lt_zero j), _, _, rfl⟩
            case hG => exact fun i σ Hx _ p => by first | exact p.1.seq hsq | exact sqT_same p.1 hsq
            case hd =>
              rintro σ Hx ⟨k, hj, _⟩
              refine none_due ?_ Hx k
              rw [good, find_range_none (fun j h => hj j (by omega))]
              rfl
            case hs =>
              rintro i x σ Hc H' hi ⟨k, hj, s1, s2, rfl⟩ ⟨T, x', y, rfl, hT, rfl, hx, hy⟩
              cases hx
              obtain ⟨dy, hdy, Dy⟩ := DA.at hy
              have kT : Same H (upd Hc T (.tup [.int (i : Nat), y])) := k.trans (same_new hT)
              refine ⟨T, _, rfl, SqT.of upd_same, rfl, _, _, rfl, _, _, rfl, rfl, ?_⟩
              refine ⟨_, rfl, _, dy, rfl, (Dy.same kT).x, Dy.txt, fun H2 k2' => ⟨_, rfl, ?_⟩⟩
              have k2 := kT.trans k2'
              have hid : i < ds.length := by omega
              cases hb : isNameD dy with
              | false =>
                refine iteT (iteT ⟨_, rfl, (by show 2 ≤ sizeLine; decide), fun dd hd => due (some i) ?_ H2 k2 dd hd⟩)
                rw [good, find_range hid (by simp [kBad, hdy, hb]) hj]
                rfl
              | true =>
                obtain ⟨z, rfl⟩ : ∃ z, dy = .str z := by cases dy <;> first | exact ⟨_, rfl⟩ | cases hb
                have hv : y = .str z := by cases Dy; rfl
                subst hv
                refine iteF ?_
                have ek : kBad ds i = hasD z (ds.take i) := by simp [kBad, hdy, hb, strIn]
                refine ⟨_, rfl, _, rfl, a, xs, rfl, seqs_same k2 hsq0, fun c hc => ?_⟩
                refine ⟨_, rfl, _, rfl, c, xs, rfl, SqL.of upd_same, fun p hp => ?_⟩
                rw [cut_take (by omega)]
                have k3 : Same H (upd (upd H2 c (.lst xs)) p (.lst (xs.take i))) := (k2.trans (same_new hc)).trans (same_new hp)
                refine ⟨z, p, xs.take i, ds.take i, rfl, rfl, .inl (SqL.of upd_same), ((DA.take i).same k3).x, _, rfl, ?_⟩
                rw [show (if false = true then !hasS z (xs.take i) else hasS z (xs.take i)) = hasD z (ds.take i) from hasS_D z (DA.take i)]
                cases hh : hasD z (ds.take i) with
                | true =>
                  refine iteT ⟨_, rfl, (by show 2 ≤ sizeLine; decide), fun dd hd => due (some i) ?_ _ k3 dd hd⟩
                  rw [good, find_range hid (ek.trans hh) hj]
                  rfl
                | false =>
                  refine iteF ⟨k3, fun j hlt => ?_, _, _, rfl⟩
                  by_cases e : j = i
                  · rw [e, ek, hh]
                  · exact hj j (by omega)
        · rw [decide_eq_false h2]
          exact iteT ⟨(by show 2 ≤ sizeLine; decide), fun dd hd => due none (bad (by omega)) H1 k1 dd hd⟩
      · rw [decide_eq_false h1]
        exact iteF ⟨_, rfl, iteT ⟨(by show 2 ≤ sizeLine; decide), fun dd hd => due none (bad (by omega)) H1 k1 dd hd⟩⟩
end

end K17
end
section
set_option Elab.async false
set_option linter.all false
set_option maxRecDepth 100000
set_option maxHeartbeats 4000000
namespace K17
open PySem PySem.Spec PyProof.Rows L2 PySem.EK
/-! the mathematics of fields and flags -/
def strOf : PyData → Option Str
  | .str y => some y
  | _ => none
def isKey (z : Str) (p : PyData × PyData) : Bool := decide (strOf p.1 = some z)
def valD (ds : List (PyData × PyData)) (z : Str) : PyData := ((ds.find? (isKey z)).map (·.2)).getD .none
def keysD (ds : List (PyData × PyData)) : List Str := ds.filterMap fun p => strOf p.1
def backD : PyData → PyData
  | .tuple [_, _, b, _] => b
  | _ => .none
def inL (l : List Str) (b : PyData) : Bool := match strOf b with
  | some y => decide (y ∈ l)
  | none => false
def backL (b : PyData) : List Str := (strOf b).toList
def goF (ks : List PyData) (ds : List (PyData × PyData)) (taken : List Str) : List Str → Option Str
  | [] => none
  | z :: r => if isFieldD ks (valD ds z) then (if inL (keysD ds ++ taken) (backD (valD ds z)) then some z else goF ks ds (taken ++ backL (backD (valD ds z))) r) else some z
def fieldsDue (ks : List PyData) : PyData → Option (Option Str)
  | .dict ds => if namesToD 12 (.dict ds) then (goF ks ds [] (srt (keysD ds))).map some else some none
  | _ => some none
def nameV : Option Str → V
  | none => .non
  | some z => .str z
theorem isName_str {d : PyData} (h : isNameD d = true) : ∃ z, d = .str z ∧ 1 ≤ z.length ∧ z.length ≤ 8 := by
  cases d with
  | str z =>
    refine ⟨z, rfl, ?_⟩
    simp only [isNameD, Bool.and_eq_true, decide_eq_true_eq] at h
    exact h.1
  | _ => cases h
section
variable {P : Program} {w : World} {K : PySem.W.Frag} {H : Hp}
/-- a dict of names, as a dict of texts -/
structure NamesAt (P : Program) (w : World) (K : PySem.W.Frag) (H : Hp) (a : Addr) (ds : List (PyData × PyData)) (kvs : List (Key × V)) : Prop where
  rd : Rd H a (.dK kvs)
  keys : kvs.map (·.1) = (keysD ds).map Sum.inr
  vals : ∀ z ∈ keysD ds, ∃ v, valV kvs (Sum.inr z) = some v ∧ DpC P w K H v (valD ds z)
  no : ∀ z, z ∉ keysD ds → valV kvs (Sum.inr z) = none
  len : (keysD ds).length = ds.length
theorem names_pairs : ∀ {kvs : List (Key × V)} {ds : List (PyData × PyData)}, (∀ p ∈ ds, isNameD p.1 = true) → ds.map (·.1) = (kvs.map flK).map (·.1.d) → DpCAll P w K H (kvs.map (·.2)) (ds.map (·.2)) →
    kvs.map (·.1) = (keysD ds).map Sum.inr ∧ (∀ z ∈ keysD ds, ∃ v, valV kvs (Sum.inr z) = some v ∧ DpC P w K H v (valD ds z)) ∧ (∀ z, z ∉ keysD ds → valV kvs (Sum.inr z) = none) ∧ (keysD ds).length = ds.length
  | [], [], _, _, _ => ⟨rfl, fun z hz => by simp [keysD] at hz, fun z hz => rfl, rfl⟩
  | [], _ :: _, _, e, _ => by cases e
  | _ :: _, [], _, e, _ => by cases e
  | (k, v) :: kvs, (d, e) :: ds, hn, he, ha => by
    cases ha with
    | cons h1 h2 =>
    have hd := hn (d, e) List.mem_cons_self
    obtain ⟨z, ez, _⟩ := isName_str hd
    dsimp only at ez
    subst ez
    have he' : PyData.str z = MK.d (.fl (kV k)) ∧ ds.map (·.1) = (kvs.map flK).map (·.1.d) := by
      have := List.cons.inj he
      exact this
    have hk : k = Sum.inr z := by
      cases k with
      | inl i => cases he'.1
      | inr y =>
        have q : PyData.str z = PyData.str y := he'.1
        cases q
        rfl
    subst hk
    obtain ⟨q1, q2, q3, q4⟩ := names_pairs (fun p hp => hn p (List.mem_cons_of_mem _ hp)) he'.2 h2
    have ek : keysD ((PyData.str z, e) :: ds) = z :: keysD ds := rfl
    have ev : ∀ y, valV ((Sum.inr z, v) :: kvs) (Sum.inr y) = if z = y then some v else valV kvs (Sum.inr y) := fun y => by
      unfold valV
      rw [List.find?_cons]
      by_cases h : z = y
      · simp [h]
      · simp [h]
    have ed : ∀ y, valD ((PyData.str z, e) :: ds) y = if z = y then e else valD ds y := fun y => by
      unfold valD isKey
      rw [List.find?_cons]
      by_cases h : z = y
      · simp [h, strOf]
      · simp [h, strOf]
    refine ⟨by rw [ek, List.map_cons, List.map_cons, q1], ?_, ?_, by rw [ek, List.length_cons, List.length_cons, q4]⟩
    · intro y hy
      rw [ev, ed]
      by_cases h : z = y
      · rw [if_pos h, if_pos h]
        exact ⟨v, rfl, h1⟩
      · rw [if_neg h, if_neg h]
        rw [ek] at hy
        rcases List.mem_cons.mp hy with hy | hy
        · exact absurd hy.symm h
        · exact q2 y hy
    · intro y hy
      rw [ek] at hy
      rw [ev, if_neg (fun h => hy (by rw [h]; exact List.mem_cons_self))]
      exact q3 y fun h => hy (List.mem_cons_of_mem _ h)
theorem names_key : ∀ {es : List (MK × V)} {ds : List (PyData × PyData)}, (∀ p ∈ ds, isNameD p.1 = true) → ds.map (·.1) = es.map (·.1.d) → ∃ kvs, asK es = some kvs
  | [], _, _, _ => ⟨[], rfl⟩
  | _ :: _, [], _, e => by cases e
  | (m, v) :: es, (d, e) :: ds, hn, he => by
    have he' : d = m.d ∧ ds.map (·.1) = es.map (·.1.d) := List.cons.inj he
    obtain ⟨kvs, hk⟩ := names_key (fun p hp => hn p (List.mem_cons_of_mem _ hp)) he'.2
    have hd := hn (d, e) List.mem_cons_self
    obtain ⟨z, ez, _⟩ := isName_str hd
    dsimp only at ez
    rw [ez] at he'
    cases m with
    | tp t x => cases he'.1
    | fl u =>
      cases u with
      | str x => exact ⟨(Sum.inr x, v) :: kvs, by simp [asK, mkKey, hk]⟩
      | _ => cases he'.1
theorem names_at {a : Addr} {ds : List (PyData × PyData)} (D : DpC P w K H (.ref a) (.dict ds)) (hn : ∀ p ∈ ds, isNameD p.1 = true) : ∃ kvs, NamesAt P w K H a ds kvs := by
  cases D with
  | @dct _ es _ hc hl hk he ha =>
    obtain ⟨kvs, e⟩ := names_key hn he
    have e' := asK_map e
    subst e'
    rw [List.map_map] at ha
    obtain ⟨q1, q2, q3, q4⟩ := names_pairs hn he ha
    exact ⟨kvs, hc.k rfl, q1, q2, q3, q4⟩
theorem NamesAt.same {H' : Hp} (k : Same H H') {a : Addr} {ds : List (PyData × PyData)} {kvs : List (Key × V)} (N : NamesAt P w K H a ds kvs) : NamesAt P w K H' a ds kvs :=
  ⟨rd_same k N.rd, N.keys, fun z hz => by
    obtain ⟨v, h1, h2⟩ := N.vals z hz
    exact ⟨v, h1, h2.same k⟩, N.no, N.len⟩
theorem names_of {most : Int} {d : PyData} (h : namesToD most d = true) : ∃ ds, d = .dict ds ∧ (ds.length : Int) ≤ most ∧ ∀ p ∈ ds, isNameD p.1 = true := by
  cases d with
  | dict ds =>
    simp only [namesToD, Bool.and_eq_true, decide_eq_true_eq, List.all_eq_true] at h
    exact ⟨ds, rfl, h.1, h.2⟩
  | _ => cases h
end
end K17
end
section
set_option Elab.async false
set_option linter.all false
set_option maxRecDepth 100000
set_option maxHeartbeats 4000000
namespace K17
open PySem PySem.Spec PyProof.Rows L2 PySem.EK

abbrev s_check_fields : Stmt := top 18
theorem in_strs (y : Str) (l : List Str) : inV (.str y) (l.map V.str) = decide (y ∈ l) := by
  induction l with
  | nil => rfl
  | cons x l ih =>
    have e : inV (.str y) ((x :: l).map V.str) = (decide (x = y) || inV (.str y) (l.map V.str)) := rfl
    rw [e, ih]
    by_cases h : x = y
    · simp [h]
    · have h' : ¬ y = x := fun z => h z.symm
      simp [h, h']
theorem in_non (l : List Str) : inV .non (l.map V.str) = false := by
  induction l with
  | nil => rfl
  | cons x l ih => exact ih
theorem dget_rd {H : Hp} {a : Addr} {kvs : List (Key × V)} {z : Str} (h : Rd H a (.dK kvs)) : DGet H a (.str z) (valV kvs (Sum.inr z)) := .inl ⟨kvs, Sum.inr z, h, rfl, rfl⟩
theorem flat_strs (l : List Str) : (l.map V.str).all flatV = true := by
  rw [List.all_map]
  exact List.all_eq_true.mpr fun _ _ => rfl
theorem field_four {ks : List PyData} {d : PyData} (h : isFieldD ks d = true) : ∃ d0 d1 d2 d3, d = .tuple [d0, d1, d2, d3] ∧ kindOfD ks d0 = true ∧ kindOfD ks d1 = true ∧ (d2 = .none ∨ isNameD d2 = true) ∧ ∃ b, d3 = .bool b := by
  unfold isFieldD at h
  split at h
  · rename_i k t b o
    simp only [Bool.and_eq_true, Bool.or_eq_true] at h
    refine ⟨k, t, b, o, rfl, h.1.1, h.1.2, ?_, ?_⟩
    · rcases h.2.1 with q | q
      · left
        cases b <;> first | rfl | (simp [isT, isTy, tyD] at q)
      · exact .inr q
    · cases o with
      | bool b => exact ⟨b, rfl⟩
      | _ => simp [isT, isTy, tyD] at h
  · cases h
def spCkFields (P : Program) (w : World) (K : PySem.W.Frag) (C : Addr) : Sp := fun vs H Q E => ∃ (v : V) (d : PyData) (a : Addr) (xs : List V) (ks : List PyData), vs = [v, .ref a] ∧ DpC P w K H v d ∧ NF H v d ∧ (SqL K H a xs ∨ SqT K H a xs) ∧ DpCAll P w K H xs ks ∧ Ends1 C "name" nameV H Q E (fieldsDue ks d)
section
variable {P : Program} {w : World} {K : PySem.W.Frag} {mg : Str → Option Value} {base : Heap} {CK CF CG : Addr}
theorem sc_check_fields : FnScope ["fields", "kinds", "taken", "name", "back"] ["fields", "kinds"] (defScope s_check_fields) := ⟨rfl, rfl, rfl, by decide +kernel, rfl, by decide +kernel, by decide +kernel⟩
theorem c_check_fields (h : Def K mg "check_fields" s_check_fields) (B : Bl mg) (T : Gm mg) (R : Errs P K mg CK CF CG) (C_is_field : Cal P w K mg base CX0 2 "is_field" ["value", "kinds"] (spField P w K)) (C_are_names_to : Cal P w K mg base CX0 2 "are_names_to" ["value", "most"] (spNamesTo P w K)) :
    Cal P w K mg base (CX P w) 3 "check_fields" ["fields", "kinds"] (spCkFields P w K CF) := by
  obtain ⟨tm, hm⟩ := T.fields
  refine cal_of h sc_check_fields (fun vs H Q E h => ?_) (fun _ _ _ _ _ _ us hl => match us, hl with | [_, _], _ => rfl) (fun f cdv A outer s H vs Q E hr h => ?_)
  · obtain ⟨v, d, a, xs, ks, rfl, _⟩ := h
    rfl
  · obtain ⟨v, d, a, xs, ks, rfl, D, nf, hsq, DA, hQ⟩ := h
    refine ⟨_, (pss_cons (ps_if (pt_not (pt_val (pe_c C_are_names_to hr pass0 (pa_cons (pv 0) (pa_cons (pe_glob (v := .int 12) (by rfl) hm ⟨_, rfl⟩) pa_nil))))) (pss_one (ps_raise rfl (takes_of rfl rfl rfl rfl) (pmk_e R.fields B.super hr (pa_cons pe_non pa_nil)))) pss_nil)
      (pss_cons (ps_set (i := 2) sc_check_fields.nd rfl (Or.inl rfl) (pe_lst pa_nil))
      (pss_one (ps_for (passes_of rfl) rfl (pi_list (pe_callB (cr_srtD rfl) (by rfl) B.sorted (by decide +kernel) (pa_cons (pv 0) pa_nil))) (pg_name (i := 3) sc_check_fields.nd rfl (Or.inl rfl)) (pss_cons (ps_if (pt_not (pt_val (pe_c C_is_field hr pass0 (pa_cons (pe_dget (un_of hr) (pv 0) (pv 3) (fun _ _ => rfl)) (pa_cons (pv 1) pa_nil))))) (pss_one (ps_raise rfl (takes_of rfl rfl rfl rfl) (pmk_e R.fields B.super hr (pa_cons (pv 3) pa_nil)))) pss_nil)
      (pss_cons (ps_set (i := 4) sc_check_fields.nd rfl (Or.inl rfl) (pe_ix ix_tup (pe_dget (un_of hr) (pv 0) (pv 3) (fun _ _ => rfl)) pe_int (fun _ _ => rfl)))
      (pss_cons (ps_if (PW.pt (pw_or (pt_cmp (pc_dinN (un_of hr) (pv 4) (pv 0))) (pw_or1 (pt_cmpR op_in_seq (pv 4) (pv 2) (by rfl))))) (pss_one (ps_raise rfl (takes_of rfl rfl rfl rfl) (pmk_e R.fields B.super hr (pa_cons (pv 3) pa_nil)))) pss_nil)
      (pss_one (ps_if (pt_cmpR op_notN (pv 4) pe_non (nomark _)) (pss_one (ps_expr (pe_bm PySem.F.plainAttrs_list PySem.F.slot_list_append PySem.F.type_list_append mt_append (pv 2) (pa_cons (pv 4) pa_nil)))) pss_nil))))))))), ?_⟩
    have due : ∀ (x : Option Str), fieldsDue ks d = some x → ∀ H1, Same H H1 → ∀ dd, H1 dd = none → E (.ref CF) (some dd) (upd H1 dd (.xd [("name", nameV x)])) := fun x e H1 k dd hd => by
      rw [e] at hQ
      exact hQ _ dd (k.trans (same_new hd)) (k.free hd) upd_same
    have none_due : fieldsDue ks d = none → ∀ H1, Same H H1 → Q .non H1 := fun e H1 k => by
      rw [e] at hQ
      exact hQ H1 k
    refine ⟨_, rfl, v, d, 12, rfl, by decide, D, nf, fun H1 k1 => ⟨_, rfl, ?_⟩⟩
    cases hn : namesToD 12 d with
    | false =>
      refine iteT ⟨rfl, rfl, fun dd hd => due none ?_ H1 k1 dd hd⟩
      cases d <;> first | rfl | simp [fieldsDue, hn]
    | true =>
      obtain ⟨ds, rfl, hle, hnm⟩ := names_of hn
      refine iteF ?_
      obtain ⟨af, rfl⟩ : ∃ af, v = .ref af := by cases D; exact ⟨_, rfl⟩
      obtain ⟨kvs, N⟩ := names_at D hnm
      refine ⟨(by show 0 ≤ sizeLine; decide), fun l hl => ?_⟩
      have hlH : H l = none := k1.free hl
      have k2 : Same H (upd H1 l (.lst [])) := k1.trans (same_new hl)
      have hlk : (keysD ds).length < 64 := by rw [N.len]; omega
      refine ⟨_, rfl, af, kvs, keysD ds, rfl, rd_same k2 N.rd, N.keys, hlk, fun p hp => ?_⟩
      have gd : fieldsDue ks (.dict ds) = (goF ks ds [] (srt (keysD ds))).map some := by simp only [fieldsDue, hn, if_true]
      refine ⟨p, rfl, ⟨_, SqL.of upd_same⟩, ?_⟩
      have hpl : p ≠ l := fun e => by rw [e, upd_same] at hp; cases hp
      refine for_it (walk_list (xs := (srt (keysD ds)).map V.str)) (fun i σ Hc => Same H Hc ∧ Hc p = some (.lst ((srt (keysD ds)).map V.str)) ∧ ∃ taken s3 s4, Hc l = some (.lst (taken.map V.str)) ∧ taken.length ≤ i ∧ goF ks ds [] (srt (keysD ds)) = goF ks ds taken ((srt (keysD ds)).drop i) ∧ σ = [some (.ref af), some (.ref a), some (.ref l), s3, s4]) ?_ ?_ ?_ ?_
      · exact ⟨k2.trans (same_new hp), upd_same, [], _, _, by rw [upd_ne (Ne.symm hpl)]; exact upd_same, Nat.le_refl _, rfl, rfl⟩
      · rintro i σ Hx _ ⟨_, h2, _⟩
        exact SqL.of h2
      · rintro i x σ Hc H' hi ⟨k, hpc, taken, s3, s4, hlc, htl, hgo, rfl⟩ ⟨rfl, hx⟩
        rw [List.length_map] at hi
        obtain ⟨z, hz, rfl⟩ : ∃ z, (srt (keysD ds))[i]? = some z ∧ x = .str z := by
          rw [List.getElem?_map] at hx
          cases e : (srt (keysD ds))[i]? with
          | none => rw [e] at hx; cases hx
          | some z => rw [e] at hx; cases hx; exact ⟨z, rfl, rfl⟩
        have hmem : z ∈ keysD ds := srt_mem.mp (List.mem_of_getElem? hz)
        obtain ⟨u, hu, Du⟩ := N.vals z hmem
        have hdrop : (srt (keysD ds)).drop i = z :: (srt (keysD ds)).drop (i + 1) := by
          rw [List.drop_eq_getElem_cons hi]
          rw [List.getElem?_eq_getElem hi] at hz
          cases hz
          rfl
        rw [hdrop] at hgo
        have dg : ∀ {Hz : Hp}, Same H Hz → DGet Hz af (.str z) (some u) := fun kz => by
          have q := dget_rd (z := z) (rd_same kz N.rd)
          rw [hu] at q
          exact q
        refine ⟨_, rfl, _, rfl, af, u, rfl, dg k, _, rfl, u, _, a, xs, ks, rfl, Du.same k, seqs_same k hsq, DA.same k, fun H3 k3' => ⟨_, rfl, ?_⟩⟩
        have k3 := k.trans k3'
        cases hf : isFieldD ks (valD ds z) with
        | false =>
          refine iteT ⟨_, rfl, rfl, rfl, fun dd hd => due (some z) ?_ H3 k3 dd hd⟩
          rw [gd, hgo]
          simp [goF, hf]
        | true =>
          refine iteF ?_
          obtain ⟨d0, d1, d2, d3, ed, _, _, hb2, _⟩ := field_four hf
          rw [ed] at Du
          obtain ⟨t, y0, y1, y2, y3, rfl, hsq4, D2⟩ : ∃ t y0 y1 y2 y3, u = .ref t ∧ SqT K H t [y0, y1, y2, y3] ∧ DpC P w K H y2 d2 := by
            cases Du with
            | tup h1 h2 h3 =>
              obtain ⟨y0, y1, y2, y3, rfl⟩ := four h3.length
              exact ⟨_, _, _, _, _, rfl, h1, (all4 h3).2.2.1⟩
          have eb : backD (valD ds z) = d2 := by rw [ed]; rfl
          refine ⟨_, rfl, _, rfl, af, .ref t, rfl, dg k3, t, _, _, y2, rfl, rfl, sqT_same k3 hsq4, rfl, ?_⟩
          have hl3 : H3 l = some (.lst (taken.map V.str)) := k3' l _ hlc
          have hp3 : H3 p = some (.lst ((srt (keysD ds)).map V.str)) := k3' p _ hpc
          have step : goF ks ds taken (z :: (srt (keysD ds)).drop (i + 1)) = if inL (keysD ds ++ taken) d2 then some z else goF ks ds (taken ++ backL d2) ((srt (keysD ds)).drop (i + 1)) := by
            show (if isFieldD ks (valD ds z) = true then _ else _) = _
            rw [hf, if_pos rfl, eb]
          rw [step] at hgo
          rcases hb2 with rfl | hnm2
          · have hy : y2 = .non := by cases D2; rfl
            subst hy
            refine ⟨_, rfl, _, rfl, .inr ⟨af, kvs, rfl, rfl, rd_same k3 N.rd, _, rfl, iteF ?_⟩⟩
            refine ⟨_, rfl, _, rfl, l, _, rfl, .inl (SqL.of hl3), rfl, flat_strs taken, _, rfl, ?_⟩
            rw [show (if false = true then !inV V.non (taken.map V.str) else inV V.non (taken.map V.str)) = false from in_non taken]
            refine iteF ⟨_, rfl, rfl, _, rfl, ?_⟩
            refine iteF ⟨k3, hp3, taken, _, _, hl3, by omega, ?_, rfl⟩
            rw [hgo]
            simp [inL, strOf, backL]
          · obtain ⟨y, rfl, _, _⟩ := isName_str hnm2
            have hy : y2 = .str y := by cases D2; rfl
            subst hy
            have ein : inL (keysD ds ++ taken) (.str y) = (decide (y ∈ keysD ds) || decide (y ∈ taken)) := by simp [inL, strOf]
            have found : inL (keysD ds ++ taken) (.str y) = true → ∀ H4, Same H H4 → ∀ dd, H4 dd = none → E (.ref CF) (some dd) (upd H4 dd (.xd [("name", nameV (some z))])) := fun e H4 k4 dd hd => by
              refine due (some z) ?_ H4 k4 dd hd
              rw [gd, hgo, if_pos e]
              rfl
            refine ⟨_, rfl, _, rfl, .inl ⟨af, _, rfl, dget_rd (rd_same k3 N.rd), _, rfl, ?_⟩⟩
            by_cases hk : y ∈ keysD ds
            · obtain ⟨u2, hu2, _⟩ := N.vals y hk
              rw [hu2]
              exact iteT (iteT ⟨_, rfl, rfl, rfl, fun dd hd => found (by rw [ein]; simp [hk]) H3 k3 dd hd⟩)
            · rw [N.no y hk]
              refine iteF ?_
              refine ⟨_, rfl, _, rfl, l, _, rfl, .inl (SqL.of hl3), rfl, flat_strs taken, _, rfl, ?_⟩
              rw [show (if false = true then !inV (V.str y) (taken.map V.str) else inV (V.str y) (taken.map V.str)) = decide (y ∈ taken) from in_strs y taken]
              by_cases ht : y ∈ taken
              · rw [decide_eq_true ht]
                exact iteT ⟨_, rfl, rfl, rfl, fun dd hd => found (by rw [ein]; simp [ht]) H3 k3 dd hd⟩
              · rw [decide_eq_false ht]
                refine iteF ⟨_, rfl, rfl, _, rfl, ?_⟩
                refine iteT ?_
                refine ⟨_, rfl, .inl ⟨rfl, _, SqL.of hl3⟩, _, rfl, l, _, _, rfl, rfl, hl3, ?_, ?_⟩
                · rw [List.length_map, sizeLine_eq]
                  have := srt_length (keysD ds)
                  omega
                · refine ⟨same_mut k3 hlH, by rw [upd_ne hpl]; exact hp3, taken ++ [y], _, _, by rw [upd_same, List.map_append]; rfl, by simp; omega, ?_, rfl⟩
                  rw [hgo, if_neg (by rw [ein]; simp [hk, ht])]
                  rfl
      · rintro σ Hx ⟨k, _, taken, s3, s4, _, _, hgo, _⟩
        refine none_due ?_ Hx k
        rw [gd, hgo, List.length_map, List.drop_length]
        rfl
end

end K17
end
section
set_option Elab.async false
set_option linter.all false
set_option maxRecDepth 100000
set_option maxHeartbeats 4000000
namespace K17
open PySem PySem.Spec PyProof.Rows L2 PySem.EK

abbrev s__law_fields_due : Stmt := top 31
abbrev s__law_flags_due : Stmt := top 32
abbrev s_check_flags : Stmt := top 19
def spFieldsDue (P : Program) (w : World) (K : PySem.W.Frag) : Sp := fun vs H Q _ => ∃ (v : V) (d : PyData) (a : Addr) (xs : List V) (ks : List PyData), vs = [.ref a, v] ∧ DpC P w K H v d ∧ NF H v d ∧ (SqL K H a xs ∨ SqT K H a xs) ∧ DpCAll P w K H xs ks ∧ Due1 "fields" nameV H Q (fieldsDue ks d)
section
variable {P : Program} {w : World} {K : PySem.W.Frag} {mg : Str → Option Value} {base : Heap} {CK CF CG : Addr}
/-- all([is_name(n) for n in d]) -/
theorem all_names {N : List Nat} {j : Nat} {a : Addr} {es : List (MK × V)} {ds : List (PyData × PyData)} {H : Hp} {σ : L2.St} {Q : VK} (hc : DictC P w H a es) (hlen : es.length ≤ big) (hk : ∀ p ∈ es, KeyOk K H p.1) (he : ds.map (·.1) = es.map (·.1.d)) (nf : ∀ o u, H a ≠ some (.frz o u))
    {i : Nat} (hσ : σ[i]? = some (some (.ref a))) (hj : j < σ.length) (hw : ∀ x, wipe ((wipe σ [j]).set j (some x)) [j] = wipe σ [j])
    (hQ : ∀ H', Same H H' → Q (.bl (ds.all fun p => isNameD p.1)) H') :
    tLockE (tCB (rAll K) (tCons (tLc (iKeysX P w (tVar i)) (gName j) tYes (tCall (spName P w K) [] E0 (tCons (tVar j) tNil)) [j]) tNil)) σ H Q := by
  obtain ⟨u, hu, hU, mu, nt, nz⟩ := dictC_at hc nf
  refine ⟨a, u, hu, mu, fun od => ?_⟩
  refine ⟨_, hσ, a, od, u, es, rfl, upd_same, hU, fun D hD => ?_⟩
  refine lc_flt (walk_keysX hU) (fun Hx k => k a _ upd_same) hD (Nat.le_trans hlen big_line) (fun i => (es[i]?).map fun p => V.bl (isNameD p.1.d)) ?_ ?_
  · rintro i x Hx Hy hi k ⟨rfl, m, v, hm, rfl⟩ Nx hN
    refine ⟨hw _, tYes_in ?_⟩
    have ko : KeyOk K Hy m := keyOk_same k (keyOk_lock (hk _ (List.mem_of_getElem? hm)) hu nt nz)
    refine ⟨m.v, ?_, _, m.d, rfl, key_dpX ko, ?_, fun H' k' => ?_⟩
    · show ((wipe σ [j]).set j (some m.v))[j]? = _
      rw [List.getElem?_set]
      simp [wipe_length, hj]
    · intro x hx
      exact Nat.le_trans (ko.2.2 x (.inl hx)) big_line
    · have z := hN H' k'
      rw [hm] at z
      exact z
  · intro Hx k hDx
    have e1 : (List.range es.length).filterMap (fun i => (es[i]?).map fun p => V.bl (isNameD p.1.d)) = (es.map fun p => isNameD p.1.d).map V.bl := by
      rw [fm_all (F := fun p => some (V.bl (isNameD p.1.d))) (fun i x hx => by rw [hx]; rfl), List.map_map]
      simp [Function.comp_def]
    rw [e1] at hDx
    refine ⟨D, _, rfl, SqL.of hDx, k a _ upd_same, ?_⟩
    have z := hQ _ (same_unlock hu k)
    have e2 : (ds.all fun p => isNameD p.1) = (es.map fun p => isNameD p.1.d).all id := by
      have e3 : (ds.all fun p => isNameD p.1) = (ds.map (·.1)).all isNameD := by rw [List.all_map]; rfl
      rw [e3, he, List.all_map, List.all_map]
      rfl
    rw [e2] at z
    exact z
theorem all_namesT {j : Nat} {a : Addr} {es : List (MK × V)} {ds : List (PyData × PyData)} {H : Hp} {σ : L2.St} {Q : Bool → Hp → Prop} (hc : DictC P w H a es) (hlen : es.length ≤ big) (hk : ∀ p ∈ es, KeyOk K H p.1) (he : ds.map (·.1) = es.map (·.1.d)) (nf : ∀ o u, H a ≠ some (.frz o u))
    {i : Nat} (hσ : σ[i]? = some (some (.ref a))) (hj : j < σ.length) (hw : ∀ x, wipe ((wipe σ [j]).set j (some x)) [j] = wipe σ [j])
    (hQ : ∀ H', Same H H' → Q (!(ds.all fun p => isNameD p.1)) H') :
    tNot (tB (tLockE (tCB (rAll K) (tCons (tLc (iKeysX P w (tVar i)) (gName j) tYes (tCall (spName P w K) [] E0 (tCons (tVar j) tNil)) [j]) tNil)))) σ H Q :=
  all_names (N := []) (Q := fun x H1 => ∃ b, x = .bl b ∧ Q (!b) H1) hc hlen hk he nf hσ hj hw fun H' k => ⟨_, rfl, hQ H' k⟩
theorem sc__law_fields_due : FnScope ["_law_breeds", "_law_heads", "_law_taken", "_law_name", "_law_back"] ["_law_breeds", "_law_heads"] (defScope s__law_fields_due) := ⟨rfl, rfl, rfl, by decide +kernel, rfl, by decide +kernel, by decide +kernel⟩
theorem c__law_fields_due (h : Def K mg "_law_fields_due" s__law_fields_due) (B : Bl mg) (C__law_is_name : Cal P w K mg base CX0 1 "_law_is_name" ["_law_value"] (spName P w K)) (C__law_is_field : Cal P w K mg base CX0 2 "_law_is_field" ["_law_breeds", "_law_value"] (spLField P w K)) :
    Cal P w K mg base CX0 3 "_law_fields_due" ["_law_breeds", "_law_heads"] (spFieldsDue P w K) := by
  refine cal_of h sc__law_fields_due (fun vs H Q E h => ?_) (fun _ _ _ _ _ _ us hl => match us, hl with | [_, _], _ => rfl) (fun f cdv A outer s H vs Q E hr h => ?_)
  · obtain ⟨v, d, a, xs, ks, rfl, _⟩ := h
    rfl
  · obtain ⟨v, d, a, xs, ks, rfl, D, nf, hsq, DA, hQ⟩ := h
    refine ⟨_, PSs.nox (pss_cons (ps_if (PW.pt (pw_or (pt_not (pt_val (pe_callB call_isA (by rfl) B.isinstance (by decide +kernel) (pa_cons (pv 1) (pa_cons (pe_bltn (v := .ty "dict") (by rfl) B.dict PyProof.Rows.Boot.«dict» rfl) pa_nil))))) (pw_or (pt_cmpR op_gt (pe_callB call_lenX (by rfl) B.len (by decide +kernel) (pa_cons (pv 1) pa_nil)) pe_int (nomark _)) (pw_or1 (pt_not (pt_val (pe_lock (pe_callB (cr_all rfl) (by rfl) B.all (by decide +kernel) (pa_cons (pe_lc (own := [("_law_name", 3)]) (by rfl) sc__law_fields_due.nd (pi_keysX (pv 1)) (blkOk_by (own := [("_law_name", 3)]) (N := ["_law_breeds", "_law_heads", "_law_taken", "_law_name", "_law_back"]) (sc := defScope s__law_fields_due) (by decide +kernel)) (fun _ _ _ _ _ => (pg_name (i := 3) sc__law_fields_due.nd rfl (Or.inl rfl))) (fun _ _ _ _ _ => pts_nil) (fun _ _ _ _ _ => (pe_c C__law_is_name hr pass0 (pa_cons (pv 3) pa_nil)))) pa_nil))))))))) (pss_one (ps_ret (pe_lst (pa_cons pe_str (pa_cons pe_non pa_nil))))) pss_nil)
      (pss_cons (ps_set (i := 2) sc__law_fields_due.nd rfl (Or.inl rfl) (pe_lst pa_nil))
      (pss_cons (ps_for PassesOwn.never rfl (pi_list (pe_callB (cr_srtD rfl) (by rfl) B.sorted (by decide +kernel) (pa_cons (pv 1) pa_nil))) (pg_name (i := 3) sc__law_fields_due.nd rfl (Or.inl rfl)) (pss_cons (ps_if (PW.pt (pw_or (pt_not (pt_val (pe_c C__law_is_field hr pass0 (pa_cons (pv 0) (pa_cons (pe_dget (un_of hr) (pv 1) (pv 3) (fun _ _ => rfl)) pa_nil))))) (pw_or1 (pt_cmpR op_in_seq (pe_ix ix_tup (pe_dget (un_of hr) (pv 1) (pv 3) (fun _ _ => rfl)) pe_int (fun _ _ => rfl)) (pe_op op_cat (pe_callTy (call_listD rfl) (by rfl) B.list (by decide +kernel) (pa_cons (pv 1) pa_nil)) (pv 2)) (by rfl))))) (pss_one (ps_ret (pe_lst (pa_cons pe_str (pa_cons (pv 3) pa_nil))))) pss_nil)
      (pss_one (ps_set (i := 2) sc__law_fields_due.nd rfl (Or.inl rfl) (pe_op op_cat (pv 2) (pe_lc (own := [("_law_back", 4)]) (by rfl) sc__law_fields_due.nd (pi_list (pe_lst (pa_cons (pe_ix ix_tup (pe_dget (un_of hr) (pv 1) (pv 3) (fun _ _ => rfl)) pe_int (fun _ _ => rfl)) pa_nil))) (blkOk_by (own := [("_law_back", 4)]) (N := ["_law_breeds", "_law_heads", "_law_taken", "_law_name", "_law_back"]) (sc := defScope s__law_fields_due) (by decide +kernel)) (fun _ _ _ _ _ => (pg_name (i := 4) sc__law_fields_due.nd rfl (Or.inl rfl))) (fun _ _ _ _ _ => pts_one (pt_cmpR op_notN (pv 4) pe_non (nomark _))) (fun _ _ _ _ _ => (pv 4))))))))
      (pss_one (ps_ret pe_non))))), ?_⟩
    have due : ∀ (x : Option Str), fieldsDue ks d = some x → ∀ H1, Same H H1 → ∀ dd, H1 dd = none → Q (.ref dd) (upd H1 dd (.lst [.str "fields", nameV x])) := fun x e H1 k dd hd => by
      rw [e] at hQ
      exact hQ _ dd (k.trans (same_new hd)) (k.free hd) upd_same
    have none_due : fieldsDue ks d = none → ∀ H1, Same H H1 → Q .non H1 := fun e H1 k => by
      rw [e] at hQ
      exact hQ H1 k
    refine ⟨_, rfl, _, _, _, d, _, rfl, .ty _, D.x, kit_d (by simp) d, _, rfl, ?_⟩
    cases hd : isT "dict" d with
    | false =>
      refine iteT (iteT ⟨(by show 2 ≤ sizeLine; decide), fun dd hdd => due none ?_ H (Same.refl H) dd hdd⟩)
      cases d with
      | dict x => cases hd
      | _ => rfl
    | true =>
      refine iteF ?_
      cases D with
      | @dct af es ds hc hlen hk he ha =>
      have D : DpC P w K H (.ref af) (.dict ds) := .dct hc hlen hk he ha
      have hl : ds.length = es.length := by have := congrArg List.length he; simpa using this
      refine ⟨_, rfl, af, es, rfl, hc.v, _, _, rfl, rfl, _, rfl, ?_⟩
      have bad : namesToD 12 (.dict ds) = false → fieldsDue ks (.dict ds) = some none := fun e => by simp [fieldsDue, e]
      by_cases hm : ((es.length : Nat) : Int) > 12
      · rw [decide_eq_true hm]
        refine iteT (iteT ⟨(by show 2 ≤ sizeLine; decide), fun dd hdd => due none (bad ?_) H (Same.refl H) dd hdd⟩)
        have : ¬ (ds.length : Int) ≤ 12 := by omega
        simp only [namesToD, decide_eq_false this, Bool.false_and]
      · rw [decide_eq_false hm]
        refine iteF ?_
        have hle : (ds.length : Int) ≤ 12 := by omega
        have enm : namesToD 12 (.dict ds) = ds.all fun p => isNameD p.1 := by simp only [namesToD, decide_eq_true hle, Bool.true_and]
        refine all_namesT (i := 1) (j := 3) (σ := [some (.ref a), some (.ref af), none, none, none]) hc hlen hk he (nf af _ rfl rfl) rfl (by show 3 < 5; decide) (fun _ => rfl) ?_
        intro H1 k1
        cases hn : ds.all fun p => isNameD p.1 with
        | false =>
          exact iteT ⟨(by show 2 ≤ sizeLine; decide), fun dd hdd => due none (bad (enm.trans hn)) H1 k1 dd hdd⟩
        | true =>
          refine iteF ?_
          rw [hn] at enm
          have hnm : ∀ p ∈ ds, isNameD p.1 = true := List.all_eq_true.mp hn
          obtain ⟨kvs, N⟩ := names_at D hnm
          refine ⟨(by show 0 ≤ sizeLine; decide), fun l hl => ?_⟩
          have k2 : Same H (upd H1 l (.lst [])) := k1.trans (same_new hl)
          have hlk : (keysD ds).length < 64 := by rw [N.len]; omega
          refine ⟨_, rfl, af, kvs, keysD ds, rfl, rd_same k2 N.rd, N.keys, hlk, fun p hp => ?_⟩
          have gd : fieldsDue ks (.dict ds) = (goF ks ds [] (srt (keysD ds))).map some := by simp only [fieldsDue, enm, if_true]
          refine ⟨p, rfl, ⟨_, SqL.of upd_same⟩, ?_⟩
          have hpl : p ≠ l := fun e => by rw [e, upd_same] at hp; cases hp
          refine for_it (walk_list (xs := (srt (keysD ds)).map V.str)) (fun i σ Hc => Same H Hc ∧ Hc p = some (.lst ((srt (keysD ds)).map V.str)) ∧ ∃ l taken s3 s4, Hc l = some (.lst (taken.map V.str)) ∧ taken.length ≤ i ∧ goF ks ds [] (srt (keysD ds)) = goF ks ds taken ((srt (keysD ds)).drop i) ∧ σ = [some (.ref a), some (.ref af), some (.ref l), s3, s4]) ?_ ?_ ?_ ?_
          · exact ⟨k2.trans (same_new hp), upd_same, l, [], _, _, by rw [upd_ne (Ne.symm hpl)]; exact upd_same, Nat.le_refl _, rfl, rfl⟩
          · rintro i σ Hx _ ⟨_, h2, _⟩
            exact SqL.of h2
          · rintro i x σ Hc H' hi ⟨k, hpc, l, taken, s3, s4, hlc, htl, hgo, rfl⟩ ⟨rfl, hx⟩
            rw [List.length_map] at hi
            obtain ⟨z, hz, rfl⟩ : ∃ z, (srt (keysD ds))[i]? = some z ∧ x = .str z := by
              rw [List.getElem?_map] at hx
              cases e : (srt (keysD ds))[i]? with
              | none => rw [e] at hx; cases hx
              | some z => rw [e] at hx; cases hx; exact ⟨z, rfl, rfl⟩
            have hmem : z ∈ keysD ds := srt_mem.mp (List.mem_of_getElem? hz)
            obtain ⟨u, hu, Du⟩ := N.vals z hmem
            have hdrop : (srt (keysD ds)).drop i = z :: (srt (keysD ds)).drop (i + 1) := by
              rw [List.drop_eq_getElem_cons hi]
              rw [List.getElem?_eq_getElem hi] at hz
              cases hz
              rfl
            rw [hdrop] at hgo
            have dg : ∀ {Hz : Hp}, Same H Hz → DGet Hz af (.str z) (some u) := fun kz => by
              have q := dget_rd (z := z) (rd_same kz N.rd)
              rw [hu] at q
              exact q
            refine ⟨_, rfl, _, rfl, _, rfl, af, u, rfl, dg k, u, _, a, xs, ks, rfl, Du.same k, seqs_same k hsq, DA.same k, fun H3 k3' => ⟨_, rfl, ?_⟩⟩
            have k3 := k.trans k3'
            have found : goF ks ds taken (z :: (srt (keysD ds)).drop (i + 1)) = some z → ∀ H4, Same H H4 → ∀ dd, H4 dd = none → Q (.ref dd) (upd H4 dd (.lst [.str "fields", nameV (some z)])) := fun e H4 k4 dd hd => by
              refine due (some z) ?_ H4 k4 dd hd
              rw [gd, hgo, e]
              rfl
            cases hf : isFieldD ks (valD ds z) with
            | false =>
              exact iteT (iteT ⟨_, rfl, (by show 2 ≤ sizeLine; decide), fun dd hd => found (by simp [goF, hf]) H3 k3 dd hd⟩)
            | true =>
              refine iteF ?_
              obtain ⟨d0, d1, d2, d3, ed, _, _, hb2, _⟩ := field_four hf
              rw [ed] at Du
              obtain ⟨t, y0, y1, y2, y3, rfl, hsq4, D2⟩ : ∃ t y0 y1 y2 y3, u = .ref t ∧ SqT K H t [y0, y1, y2, y3] ∧ DpC P w K H y2 d2 := by
                cases Du with
                | tup h1 h2 h3 =>
                  obtain ⟨y0, y1, y2, y3, rfl⟩ := four h3.length
                  exact ⟨_, _, _, _, _, rfl, h1, (all4 h3).2.2.1⟩
              have eb : backD (valD ds z) = d2 := by rw [ed]; rfl
              have hl3 : H3 l = some (.lst (taken.map V.str)) := k3' l _ hlc
              have hp3 : H3 p = some (.lst ((srt (keysD ds)).map V.str)) := k3' p _ hpc
              have step : goF ks ds taken (z :: (srt (keysD ds)).drop (i + 1)) = if inL (keysD ds ++ taken) d2 then some z else goF ks ds (taken ++ backL d2) ((srt (keysD ds)).drop (i + 1)) := by
                show (if isFieldD ks (valD ds z) = true then _ else _) = _
                rw [hf, if_pos rfl, eb]
              have hsl := srt_length (keysD ds)
              refine ⟨_, rfl, _, rfl, af, .ref t, rfl, dg k3, t, _, _, y2, rfl, rfl, sqT_same k3 hsq4, rfl, ?_⟩
              refine ⟨_, rfl, af, kvs, rfl, rd_same k3 N.rd, fun c hc' => ?_⟩
              have ekv : (kvs.map fun kv => kV kv.1) = (keysD ds).map V.str := by
                have q := congrArg (List.map kV) N.keys
                rw [List.map_map, List.map_map] at q
                exact q
              rw [ekv]
              have k4 : Same H3 (upd H3 c (.lst ((keysD ds).map V.str))) := same_new hc'
              refine ⟨_, rfl, c, l, _, _, rfl, rfl, upd_same, k4 l _ hl3, ?_, fun m hm' => ?_⟩
              · rw [List.length_map, List.length_map, sizeLine_eq]
                omega
              rw [← List.map_append]
              have k5 : Same H3 (upd (upd H3 c (.lst ((keysD ds).map V.str))) m (.lst ((keysD ds ++ taken).map V.str))) := k4.trans (same_new hm')
              have flat2 : flatV y2 = true ∧ inV y2 ((keysD ds ++ taken).map V.str) = inL (keysD ds ++ taken) d2 ∧ (if y2 = .non then ([] : List V) else [y2]) = (backL d2).map V.str := by
                rcases hb2 with rfl | hnm2
                · have hy : y2 = .non := by cases D2; rfl
                  subst hy
                  exact ⟨rfl, in_non _, rfl⟩
                · obtain ⟨y, rfl, _, _⟩ := isName_str hnm2
                  have hy : y2 = .str y := by cases D2; rfl
                  subst hy
                  exact ⟨rfl, in_strs _ _, rfl⟩
              refine ⟨m, _, rfl, .inl (SqL.of upd_same), flat2.1, flat_strs _, _, rfl, ?_⟩
              rw [show (if false = true then !inV y2 ((keysD ds ++ taken).map V.str) else inV y2 ((keysD ds ++ taken).map V.str)) = inL (keysD ds ++ taken) d2 from flat2.2.1]
              cases hin : inL (keysD ds ++ taken) d2 with
              | true =>
                exact iteT ⟨_, rfl, (by show 2 ≤ sizeLine; decide), fun dd hd => found (by rw [step, hin]; rfl) _ (k3.trans k5) dd hd⟩
              | false =>
                refine iteF ?_
                rw [hin] at step
                have k6 := k3.trans k5
                revert k5 k6
                generalize upd (upd H3 c (.lst ((keysD ds).map V.str))) m (.lst ((keysD ds ++ taken).map V.str)) = H4
                intro k5 k6
                refine ⟨_, rfl, _, rfl, _, rfl, af, .ref t, rfl, dg k6, t, _, _, y2, rfl, rfl, sqT_same k6 hsq4, rfl, (by show 1 ≤ sizeLine; decide), fun q hq => ?_⟩
                refine ⟨q, rfl, ⟨_, SqL.of upd_same⟩, fun D hD => ?_⟩
                have k7 : Same H4 (upd H4 q (.lst [y2])) := same_new hq
                refine lc_flt (walk_list (xs := [y2])) (fun Hx k => k.seq (SqL.of upd_same)) hD (by show 1 ≤ sizeLine; decide) (fun _ => if y2 = .non then none else some y2) ?_ ?_
                · rintro i' x Hx Hy hi' kx ⟨rfl, hx'⟩ Nx hN
                  have e0 : i' = 0 := Nat.lt_one_iff.mp hi'
                  subst e0
                  cases hx'
                  refine ⟨rfl, _, rfl, rfl, _, rfl, ?_⟩
                  have z := hN Hy (Same.refl _)
                  by_cases hy : y2 = .non
                  · rw [if_pos hy] at z
                    rw [decide_eq_true hy]
                    exact iteF z
                  · rw [if_neg hy] at z
                    rw [decide_eq_false hy]
                    exact iteT ⟨_, rfl, z⟩
                · intro Hx kx hDx
                  have e1 : (List.range [y2].length).filterMap (fun _ => if y2 = .non then none else some y2) = (backL d2).map V.str := by
                    rw [← flat2.2.2]
                    show (List.range 1).filterMap _ = _
                    by_cases hy : y2 = .non
                    · simp [hy]
                    · simp [hy, List.range_succ]
                  rw [e1] at hDx
                  have k8 := k7.trans kx
                  refine ⟨l, D, _, _, rfl, rfl, k8 l _ (k5 l _ hl3), hDx, ?_, fun nw hnw => ?_⟩
                  · rw [List.length_map, List.length_map, sizeLine_eq]
                    have : (backL d2).length ≤ 1 := by unfold backL; cases strOf d2 <;> simp
                    omega
                  · rw [← List.map_append]
                    refine ⟨(k6.trans k8).trans (same_new hnw), ?_, nw, taken ++ backL d2, _, _, upd_same, ?_, ?_, rfl⟩
                    · rw [upd_ne (ne_of_none (k8 p _ (k5 p _ hp3)) hnw)]
                      exact k8 p _ (k5 p _ hp3)
                    · rw [List.length_append]
                      have : (backL d2).length ≤ 1 := by unfold backL; cases strOf d2 <;> simp
                      omega
                    · rw [hgo, step]
                      rfl
          · rintro σ Hx ⟨k, _, l, taken, s3, s4, _, _, hgo, _⟩
            refine none_due ?_ Hx k
            rw [gd, hgo, List.length_map, List.drop_length]
            rfl
      | _ => cases hd
end

end K17
end
section
set_option Elab.async false
set_option linter.all false
set_option maxRecDepth 100000
set_option maxHeartbeats 4000000
namespace K17
open PySem PySem.Spec PyProof.Rows L2 PySem.EK

def goG (ks : List PyData) (ls : List Str) (ds : List (PyData × PyData)) : List Str → Option Str
  | [] => none
  | z :: r => if decide (z ∈ ls) || !kindOfD ks (valD ds z) then some z else goG ks ls ds r
def flagsDue (ks : List PyData) (ls : List Str) : PyData → Option (Option Str)
  | .dict ds => if namesToD 12 (.dict ds) then (goG ks ls ds (srt (keysD ds))).map some else some none
  | _ => some none
theorem goG_congr {ks : List PyData} {ls ls' : List Str} {ds : List (PyData × PyData)} (h : ∀ z, z ∈ ls ↔ z ∈ ls') : ∀ l, goG ks ls ds l = goG ks ls' ds l
  | [] => rfl
  | z :: r => by
    unfold goG
    rw [goG_congr h r, show decide (z ∈ ls) = decide (z ∈ ls') from decide_eq_decide.mpr (h z)]
theorem flagsDue_congr {ks : List PyData} {ls ls' : List Str} (h : ∀ z, z ∈ ls ↔ z ∈ ls') (d : PyData) : flagsDue ks ls d = flagsDue ks ls' d := by
  cases d with
  | dict ds => simp only [flagsDue, goG_congr h]
  | _ => rfl
def spCkFlags (P : Program) (w : World) (K : PySem.W.Frag) (C : Addr) : Sp := fun vs H Q E => ∃ (v : V) (d : PyData) (a l : Addr) (xs : List V) (ks : List PyData) (ls : List Str), vs = [v, .ref a, .ref l] ∧ DpC P w K H v d ∧ NF H v d ∧ (SqL K H a xs ∨ SqT K H a xs) ∧ DpCAll P w K H xs ks ∧ SqL K H l (ls.map V.str) ∧ Ends1 C "name" nameV H Q E (flagsDue ks ls d)
section
variable {P : Program} {w : World} {K : PySem.W.Frag} {mg : Str → Option Value} {base : Heap} {CK CF CG : Addr}
theorem sc_check_flags : FnScope ["flags", "kinds", "links", "name"] ["flags", "kinds", "links"] (defScope s_check_flags) := ⟨rfl, rfl, rfl, by decide +kernel, rfl, by decide +kernel, by decide +kernel⟩
theorem c_check_flags (h : Def K mg "check_flags" s_check_flags) (B : Bl mg) (T : Gm mg) (R : Errs P K mg CK CF CG) (C_is_kind_of : Cal P w K mg base CX0 1 "is_kind_of" ["value", "kinds"] (spKindOf P w K)) (C_are_names_to : Cal P w K mg base CX0 2 "are_names_to" ["value", "most"] (spNamesTo P w K)) :
    Cal P w K mg base (CX P w) 3 "check_flags" ["flags", "kinds", "links"] (spCkFlags P w K CG) := by
  obtain ⟨tm, hm⟩ := T.flags
  refine cal_of h sc_check_flags (fun vs H Q E h => ?_) (fun _ _ _ _ _ _ us hl => match us, hl with | [_, _, _], _ => rfl) (fun f cdv A outer s H vs Q E hr h => ?_)
  · obtain ⟨v, d, a, l, xs, ks, ls, rfl, _⟩ := h
    rfl
  · obtain ⟨v, d, a, l, xs, ks, ls, rfl, D, nf, hsq, DA, hls, hQ⟩ := h
    refine ⟨_, (pss_cons (ps_if (pt_not (pt_val (pe_c C_are_names_to hr pass0 (pa_cons (pv 0) (pa_cons (pe_glob (v := .int 12) (by rfl) hm ⟨_, rfl⟩) pa_nil))))) (pss_one (ps_raise rfl (takes_of rfl rfl rfl rfl) (pmk_e R.flags B.super hr (pa_cons pe_non pa_nil)))) pss_nil)
      (pss_one (ps_for (passes_of rfl) rfl (pi_list (pe_callB (cr_srtD rfl) (by rfl) B.sorted (by decide +kernel) (pa_cons (pv 0) pa_nil))) (pg_name (i := 3) sc_check_flags.nd rfl (Or.inl rfl)) (pss_one (ps_if (PW.pt (pw_or (pt_cmpR op_in_seq (pv 3) (pv 2) (by rfl)) (pw_or1 (pt_not (pt_val (pe_c C_is_kind_of hr pass0 (pa_cons (pe_dget (un_of hr) (pv 0) (pv 3) (fun _ _ => rfl)) (pa_cons (pv 1) pa_nil)))))))) (pss_one (ps_raise rfl (takes_of rfl rfl rfl rfl) (pmk_e R.flags B.super hr (pa_cons (pv 3) pa_nil)))) pss_nil))))), ?_⟩
    have due : ∀ (x : Option Str), flagsDue ks ls d = some x → ∀ H1, Same H H1 → ∀ dd, H1 dd = none → E (.ref CG) (some dd) (upd H1 dd (.xd [("name", nameV x)])) := fun x e H1 k dd hd => by
      rw [e] at hQ
      exact hQ _ dd (k.trans (same_new hd)) (k.free hd) upd_same
    have none_due : flagsDue ks ls d = none → ∀ H1, Same H H1 → Q .non H1 := fun e H1 k => by
      rw [e] at hQ
      exact hQ H1 k
    refine ⟨_, rfl, v, d, 12, rfl, by decide, D, nf, fun H1 k1 => ⟨_, rfl, ?_⟩⟩
    cases hn : namesToD 12 d with
    | false =>
      refine iteT ⟨rfl, rfl, fun dd hd => due none ?_ H1 k1 dd hd⟩
      cases d <;> first | rfl | simp [flagsDue, hn]
    | true =>
      obtain ⟨ds, rfl, hle, hnm⟩ := names_of hn
      refine iteF ?_
      obtain ⟨af, rfl⟩ : ∃ af, v = .ref af := by cases D; exact ⟨_, rfl⟩
      obtain ⟨kvs, N⟩ := names_at D hnm
      have hlk : (keysD ds).length < 64 := by rw [N.len]; omega
      refine ⟨_, rfl, af, kvs, keysD ds, rfl, rd_same k1 N.rd, N.keys, hlk, fun p hp => ?_⟩
      have gd : flagsDue ks ls (.dict ds) = (goG ks ls ds (srt (keysD ds))).map some := by simp only [flagsDue, hn, if_true]
      refine ⟨p, rfl, ⟨_, SqL.of upd_same⟩, ?_⟩
      refine for_it (walk_list (xs := (srt (keysD ds)).map V.str)) (fun i σ Hc => Same H Hc ∧ Hc p = some (.lst ((srt (keysD ds)).map V.str)) ∧ ∃ s3, goG ks ls ds (srt (keysD ds)) = goG ks ls ds ((srt (keysD ds)).drop i) ∧ σ = [some (.ref af), some (.ref a), some (.ref l), s3]) ?_ ?_ ?_ ?_
      · exact ⟨k1.trans (same_new hp), upd_same, _, rfl, rfl⟩
      · rintro i σ Hx _ ⟨_, h2, _⟩
        exact SqL.of h2
      · rintro i x σ Hc H' hi ⟨k, hpc, s3, hgo, rfl⟩ ⟨rfl, hx⟩
        rw [List.length_map] at hi
        obtain ⟨z, hz, rfl⟩ : ∃ z, (srt (keysD ds))[i]? = some z ∧ x = .str z := by
          rw [List.getElem?_map] at hx
          cases e : (srt (keysD ds))[i]? with
          | none => rw [e] at hx; cases hx
          | some z => rw [e] at hx; cases hx; exact ⟨z, rfl, rfl⟩
        have hmem : z ∈ keysD ds := srt_mem.mp (List.mem_of_getElem? hz)
        obtain ⟨u, hu, Du⟩ := N.vals z hmem
        have hdrop : (srt (keysD ds)).drop i = z :: (srt (keysD ds)).drop (i + 1) := by
          rw [List.drop_eq_getElem_cons hi]
          rw [List.getElem?_eq_getElem hi] at hz
          cases hz
          rfl
        rw [hdrop] at hgo
        have dg : ∀ {Hz : Hp}, Same H Hz → DGet Hz af (.str z) (some u) := fun kz => by
          have q := dget_rd (z := z) (rd_same kz N.rd)
          rw [hu] at q
          exact q
        have found : (decide (z ∈ ls) || !kindOfD ks (valD ds z)) = true → ∀ H4, Same H H4 → ∀ dd, H4 dd = none → E (.ref CG) (some dd) (upd H4 dd (.xd [("name", nameV (some z))])) := fun e H4 k4 dd hd => by
          refine due (some z) ?_ H4 k4 dd hd
          rw [gd, hgo]
          unfold goG
          rw [if_pos e]
          rfl
        refine ⟨_, rfl, _, rfl, l, _, rfl, .inl (k.seq hls), rfl, flat_strs ls, _, rfl, ?_⟩
        rw [show (if false = true then !inV (V.str z) (ls.map V.str) else inV (V.str z) (ls.map V.str)) = decide (z ∈ ls) from in_strs z ls]
        cases hin : decide (z ∈ ls) with
        | true =>
          exact iteT (iteT ⟨_, rfl, rfl, rfl, fun dd hd => found (by rw [hin]; rfl) _ k dd hd⟩)
        | false =>
          refine iteF ?_
          refine ⟨_, rfl, _, rfl, af, u, rfl, dg k, _, rfl, u, _, a, xs, ks, rfl, Du.same k, seqs_same k hsq, DA.same k, fun H3 k3' => ⟨_, rfl, ?_⟩⟩
          have k3 := k.trans k3'
          cases hf : kindOfD ks (valD ds z) with
          | false =>
            exact iteT ⟨_, rfl, rfl, rfl, fun dd hd => found (by rw [hf, hin]; rfl) H3 k3 dd hd⟩
          | true =>
            refine iteF ⟨k3, k3' p _ hpc, _, ?_, rfl⟩
            rw [hgo]
            show (if (decide (z ∈ ls) || !kindOfD ks (valD ds z)) = true then _ else _) = _
            rw [hin, hf]
            rfl
      · rintro σ Hx ⟨k, _, s3, hgo, _⟩
        refine none_due ?_ Hx k
        rw [gd, hgo, List.length_map, List.drop_length]
        rfl
end

end K17
end
section
set_option Elab.async false
set_option linter.all false
set_option maxRecDepth 100000
set_option maxHeartbeats 4000000
/-! EK13: compared with what is empty; a dict's keys differ -/
namespace L2
open PySem PySem.Spec PyProof.Rows PySem.EK
section
variable {X : Cx}
/-- a tuple == () -/
def rEqT0 (K : PySem.W.Frag) : R2 := fun x y H Q => ∃ a b xs, x = .ref a ∧ y = .ref b ∧ SqT K H a xs ∧ SqT K H b [] ∧ Q (.bl xs.isEmpty) H
theorem op_eqT0 (hu : X.A.units < cLine) : OpR X (compareOp .Eq) (rEqT0 X.K) := by
  intro pins s σ H x y v u Q I rx ry h
  obtain ⟨a, b, xs, rfl, rfl, ha, hb, q⟩ := h
  obtain rfl : v = Value.ref a := rx
  obtain rfl : u = Value.ref b := ry
  obtain ⟨its, rv, pt, _⟩ := I.tuple ha
  obtain ⟨its2, rv2, pt2, _⟩ := I.tuple hb
  cases rv2
  refine SeqAt.eq_tupleAt (e := fun _ => true) pt pt2 hu (fun j h1 h2 => absurd h2 (by simp)) (fin_bl I q ?_)
  have e := rv.length
  cases xs with
  | nil => cases rv; rfl
  | cons x xs => cases rv; simp
/-- a list == [], a list != [] -/
def rEqL0 (K : PySem.W.Frag) : R2 := fun x y H Q => ∃ a b xs, x = .ref a ∧ y = .ref b ∧ SqL K H a xs ∧ SqL K H b [] ∧ Q (.bl xs.isEmpty) H
theorem op_eqL0 (hu : X.A.units < cLine) : OpR X (compareOp .Eq) (rEqL0 X.K) := by
  intro pins s σ H x y v u Q I rx ry h
  obtain ⟨a, b, xs, rfl, rfl, ha, hb, q⟩ := h
  obtain rfl : v = Value.ref a := rx
  obtain rfl : u = Value.ref b := ry
  obtain ⟨its, rv, pt, _⟩ := I.list ha
  obtain ⟨its2, rv2, pt2, _⟩ := I.list hb
  cases rv2
  cases xs with
  | nil =>
    cases rv
    exact SeqAt.eq_listAt (e := fun _ => true) pt.isList pt2.isList rfl hu (fun j h1 h2 => absurd h2 (by simp)) (fin_bl I q rfl)
  | cons x xs =>
    cases rv
    exact SeqAt.eq_list_lengthsAt pt.isList pt2.isList (by simp) hu (fin_bl I q rfl)
def rNeL0 (K : PySem.W.Frag) : R2 := fun x y H Q => ∃ a b xs, x = .ref a ∧ y = .ref b ∧ SqL K H a xs ∧ SqL K H b [] ∧ Q (.bl (!xs.isEmpty)) H
theorem op_neL0 (hu : X.A.units < cLine) : OpR X (compareOp .NotEq) (rNeL0 X.K) := by
  intro pins s σ H x y v u Q I rx ry h
  obtain ⟨a, b, xs, rfl, rfl, ha, hb, q⟩ := h
  obtain rfl : v = Value.ref a := rx
  obtain rfl : u = Value.ref b := ry
  obtain ⟨its, rv, pt, _⟩ := I.list ha
  obtain ⟨its2, rv2, pt2, _⟩ := I.list hb
  cases rv2
  cases xs with
  | nil =>
    cases rv
    exact SeqAt.RcNeAt.lists (e := fun _ => true) pt.isList pt2.isList rfl hu (fun j h1 h2 => absurd h2 (by simp)) X.prog X.w X.xe _ (fin_bl I q rfl)
  | cons x xs =>
    cases rv
    exact SeqAt.RcNeAt.lists_lengths pt.isList pt2.isList (by simp) hu X.prog X.w X.xe _ (fin_bl I q rfl)
/-- a dict != {} -/
def rNeD0 : R2 := fun x y H Q => ∃ a b ks, x = .ref a ∧ y = .ref b ∧ Rd H a (.dK ks) ∧ Rd H b (.dK []) ∧ Q (.bl (!ks.isEmpty)) H
theorem op_neD0 (hu : X.A.units < cLine) : OpR X (compareOp .NotEq) rNeD0 := by
  intro pins s σ H x y v u Q I rx ry h
  obtain ⟨a, b, ks, rfl, rfl, ea, eb, q⟩ := h
  obtain rfl : v = Value.ref a := rx
  obtain rfl : u = Value.ref b := ry
  obtain ⟨_, ya, va, ra, da⟩ := (show ObjOk X.prog X.w H s.heap a (.dK ks) from ea.ok I.hok)
  obtain ⟨_, yb, vb, rb, db⟩ := (show ObjOk X.prog X.w H s.heap b (.dK []) from eb.ok I.hok)
  cases rb
  cases ks with
  | nil =>
    cases ra
    exact PySem.W.keq_ne (knd := mixKind X.prog X.w) (r := true) ya yb da db hu (fun _ => .nil) (fin_bl I q rfl)
  | cons k ks =>
    cases ra
    exact PySem.W.keq_ne (knd := mixKind X.prog X.w) (r := true) ya yb da db hu (fun e => by simp at e) (fin_bl I q (by simp))
/-- what an expression gives, and that a dict's keys differ -/
def tNd (t : TE) : TE := fun σ H Q => t σ H fun x H1 => (∀ a kvs, x = .ref a → Rd H1 a (.dK kvs) → (kvs.map (·.1)).Nodup) → Q x H1
theorem pe_nd {e : Expr} {t : TE} (he : PE X e t) : PE X e (tNd t) := by
  refine ⟨fun pins s σ H Q I h => ?_⟩
  refine wpAny_mono (he.run pins s σ H _ I h) (fun u s1 z => ?_) fun _ _ x => x
  obtain ⟨x, H1, I1, rx, q⟩ := z
  refine ⟨x, H1, I1, rx, q fun a kvs _ hr => ?_⟩
  obtain ⟨_, _, vs, ra, da⟩ := (show ObjOk X.prog X.w H1 s1.heap a (.dK kvs) from hr.ok I1.hok)
  obtain ⟨o, arr, ep, _, _, _, _, _, nd⟩ := da
  rw [show kvs.map (·.1) = vs.map (·.1) from ra.keys]
  exact nd
end
/-- within a comprehension: told by the written part -/
theorem ix_tupK {X : Cx} (K : PySem.W.Frag) (hK : X.K = K := by rfl) : IxR X (rIxT K) := by
  subst hK
  exact ix_tup
theorem ix_listK {X : Cx} (K : PySem.W.Frag) (hK : X.K = K := by rfl) : IxR X (rIxL K) := by
  subst hK
  exact ix_list
theorem pg_tupK {X : Cx} (K : PySem.W.Frag) {es : List Expr} {k : Nat} {t : TGs} {n : Nat} {pos : Pos} (hc : X.calm = true) (h : PGs X es t)
    (hn : (assignEach es X.env).length = n := by rfl) (hst : (assignEach es X.env).findIdx? (·.1) = none := by rfl) (hK : X.K = K := by rfl) : PG X (.Tuple es k pos) (gTup K n t) := by
  subst hK
  exact pg_tup hc h hn hst
theorem putK_fresh {kvs : List (Key × V)} {k : Key} {v : V} (h : k ∉ kvs.map (·.1)) : putK kvs k v = kvs ++ [(k, v)] := by
  unfold putK
  split
  · rename_i e
    exfalso
    refine h ?_
    simp only [List.any_eq_true] at e
    obtain ⟨p, hp, e⟩ := e
    have e' : p.1 = k := by simpa using e
    exact List.mem_map.mpr ⟨p, hp, e'⟩
  · rfl
theorem mergeK_nodup : ∀ {more kvs : List (Key × V)}, ((kvs ++ more).map (·.1)).Nodup → mergeK kvs more = kvs ++ more
  | [], kvs, _ => by simp [mergeK]
  | p :: r, kvs, h => by
    have e : mergeK kvs (p :: r) = mergeK (putK kvs p.1 p.2) r := rfl
    have hp : p.1 ∉ kvs.map (·.1) := fun q => by
      rw [List.map_append, List.nodup_append] at h
      exact h.2.2 _ q _ (by simp) rfl
    rw [e, putK_fresh hp, mergeK_nodup (by simpa using h)]
    simp
end L2
end
section
set_option Elab.async false
set_option linter.all false
set_option maxRecDepth 100000
set_option maxHeartbeats 4000000
namespace K17
open PySem PySem.Spec PyProof.Rows L2 PySem.EK

def bV : PyData → V
  | .str y => .str y
  | _ => .non
def backs (fs : List (PyData × PyData)) (l : List Str) : List Str := l.flatMap fun z => backL (backD (valD fs z))
def linksD (fs : List (PyData × PyData)) : List Str := keysD fs ++ backs fs (keysD fs)
def flagsDue2 (ks : List PyData) (ls : List Str) : PyData → Option (Option Str)
  | .tuple [] => none
  | d => flagsDue ks ls d
theorem in_app (y : V) (l m : List V) : inV y (l ++ m) = (inV y l || inV y m) := by
  unfold inV
  rw [List.any_append]
theorem in_backs (y : Str) (fs : List (PyData × PyData)) : ∀ l : List Str, inV (.str y) (l.map fun z => bV (backD (valD fs z))) = decide (y ∈ backs fs l)
  | [] => rfl
  | z :: r => by
    have ih := in_backs y fs r
    have e : inV (.str y) ((z :: r).map fun z => bV (backD (valD fs z))) = (eqV (bV (backD (valD fs z))) (.str y) || inV (.str y) (r.map fun z => bV (backD (valD fs z)))) := rfl
    have e2 : backs fs (z :: r) = backL (backD (valD fs z)) ++ backs fs r := rfl
    rw [e, ih, e2]
    have e3 : eqV (bV (backD (valD fs z))) (.str y) = decide (y ∈ backL (backD (valD fs z))) := by
      cases backD (valD fs z) with
      | str x =>
        show decide (x = y) = decide (y ∈ [x])
        by_cases h : x = y
        · simp [h]
        · have h' : ¬ y = x := fun z => h z.symm
          simp [h, h']
      | _ => rfl
    rw [e3]
    simp
theorem flat_backs (fs : List (PyData × PyData)) (l : List Str) : (l.map fun z => bV (backD (valD fs z))).all flatV = true := by
  rw [List.all_map]
  refine List.all_eq_true.mpr fun z _ => ?_
  show flatV (bV (backD (valD fs z))) = true
  cases backD (valD fs z) <;> rfl
theorem goF_field {ks : List PyData} {ds : List (PyData × PyData)} : ∀ {l taken : List Str}, goF ks ds taken l = none → ∀ z ∈ l, isFieldD ks (valD ds z) = true
  | [], _, _, z, hz => by cases hz
  | y :: r, taken, h, z, hz => by
    unfold goF at h
    cases hf : isFieldD ks (valD ds y) with
    | false => rw [hf] at h; cases h
    | true =>
      rw [hf, if_pos rfl] at h
      split at h
      · cases h
      · rcases List.mem_cons.mp hz with rfl | hz
        · exact hf
        · exact goF_field h z hz
theorem fields_ok {ks : List PyData} {d : PyData} (h : fieldsDue ks d = none) : ∃ ds, d = .dict ds ∧ ds.length ≤ 12 ∧ (∀ p ∈ ds, isNameD p.1 = true) ∧ (∀ z ∈ keysD ds, isFieldD ks (valD ds z) = true) ∧ goF ks ds [] (srt (keysD ds)) = none := by
  cases d with
  | dict ds =>
    cases hn : namesToD 12 (.dict ds) with
    | false => simp only [fieldsDue, hn] at h; cases h
    | true =>
      simp only [fieldsDue, hn, if_true] at h
      obtain ⟨ds', e, h1, h2⟩ := names_of hn
      cases e
      have hg : goF ks ds [] (srt (keysD ds)) = none := by
        cases q : goF ks ds [] (srt (keysD ds)) with
        | none => rfl
        | some x => rw [q] at h; cases h
      exact ⟨ds, rfl, by omega, h2, fun z hz => goF_field hg z (srt_mem.mpr hz), hg⟩
  | _ => cases h
def spFlagsDue (P : Program) (w : World) (K : PySem.W.Frag) : Sp := fun vs H Q _ => ∃ (v : V) (d : PyData) (a hh : Addr) (fs : List (PyData × PyData)) (xs : List V) (ks : List PyData), vs = [.ref a, .ref hh, v] ∧ DpC P w K H v d ∧ NF H v d ∧ DpC P w K H (.ref hh) (.dict fs) ∧ (∀ o u, H hh ≠ some (.frz o u)) ∧ fieldsDue ks (.dict fs) = none ∧ (SqL K H a xs ∨ SqT K H a xs) ∧ DpCAll P w K H xs ks ∧ Due1 "flags" nameV H Q (flagsDue2 ks (linksD fs) d)
section
variable {P : Program} {w : World} {K : PySem.W.Frag} {mg : Str → Option Value} {base : Heap} {CK CF CG : Addr}
theorem sc__law_flags_due : FnScope ["_law_breeds", "_law_heads", "_law_marks", "_law_links", "_law_name"] ["_law_breeds", "_law_heads", "_law_marks"] (defScope s__law_flags_due) := ⟨rfl, rfl, rfl, by decide +kernel, rfl, by decide +kernel, by decide +kernel⟩
theorem c__law_flags_due (h : Def K mg "_law_flags_due" s__law_flags_due) (B : Bl mg) (C__law_is_name : Cal P w K mg base CX0 1 "_law_is_name" ["_law_value"] (spName P w K)) :
    Cal P w K mg base CX0 3 "_law_flags_due" ["_law_breeds", "_law_heads", "_law_marks"] (spFlagsDue P w K) := by
  refine cal_of h sc__law_flags_due (fun vs H Q E h => ?_) (fun _ _ _ _ _ _ us hl => match us, hl with | [_, _, _], _ => rfl) (fun f cdv A outer s H vs Q E hr h => ?_)
  · obtain ⟨v, d, a, hh, fs, xs, ks, rfl, _⟩ := h
    rfl
  · obtain ⟨v, d, a, hh, fs, xs, ks, rfl, D, nf, Df, nff, hfd, hsq, DA, hQ⟩ := h
    refine ⟨_, PSs.nox (pss_cons (ps_if (PW.pt (pw_and (pt_val (pe_callB call_isA (by rfl) B.isinstance (by decide +kernel) (pa_cons (pv 2) (pa_cons (pe_bltn (v := .ty "tuple") (by rfl) B.tuple PyProof.Rows.Boot.«tuple» rfl) pa_nil)))) (pw_and1 (pt_cmpR op_eq (pe_callB call_len_seq (by rfl) B.len (by decide +kernel) (pa_cons (pv 2) pa_nil)) pe_int (nomark _))))) (pss_one (ps_ret pe_non)) pss_nil)
      (pss_cons (ps_if (PW.pt (pw_or (pt_not (pt_val (pe_callB call_isA (by rfl) B.isinstance (by decide +kernel) (pa_cons (pv 2) (pa_cons (pe_bltn (v := .ty "dict") (by rfl) B.dict PyProof.Rows.Boot.«dict» rfl) pa_nil))))) (pw_or (pt_cmpR op_gt (pe_callB call_lenX (by rfl) B.len (by decide +kernel) (pa_cons (pv 2) pa_nil)) pe_int (nomark _)) (pw_or1 (pt_not (pt_val (pe_lock (pe_callB (cr_all rfl) (by rfl) B.all (by decide +kernel) (pa_cons (pe_lc (own := [("_law_name", 4)]) (by rfl) sc__law_flags_due.nd (pi_keysX (pv 2)) (blkOk_by (own := [("_law_name", 4)]) (N := ["_law_breeds", "_law_heads", "_law_marks", "_law_links", "_law_name"]) (sc := defScope s__law_flags_due) (by decide +kernel)) (fun _ _ _ _ _ => (pg_name (i := 4) sc__law_flags_due.nd rfl (Or.inl rfl))) (fun _ _ _ _ _ => pts_nil) (fun _ _ _ _ _ => (pe_c C__law_is_name hr pass0 (pa_cons (pv 4) pa_nil)))) pa_nil))))))))) (pss_one (ps_ret (pe_lst (pa_cons pe_str (pa_cons pe_non pa_nil))))) pss_nil)
      (pss_cons (ps_set (i := 3) sc__law_flags_due.nd rfl (Or.inl rfl) (pe_op op_cat (pe_callTy (call_listD rfl) (by rfl) B.list (by decide +kernel) (pa_cons (pv 1) pa_nil)) (pe_lock (pe_lc (own := [("_law_name", 4)]) (by rfl) sc__law_flags_due.nd (pi_keysX (pv 1)) (blkOk_by (own := [("_law_name", 4)]) (N := ["_law_breeds", "_law_heads", "_law_marks", "_law_links", "_law_name"]) (sc := defScope s__law_flags_due) (by decide +kernel)) (fun _ _ _ _ _ => (pg_name (i := 4) sc__law_flags_due.nd rfl (Or.inl rfl))) (fun _ _ _ _ _ => pts_nil) (fun _ _ _ _ _ => (pe_ix (ix_tupK K) (pe_dget (un_of hr) (pv 1) (pv 4) (fun _ _ => rfl)) pe_int (fun _ _ => rfl)))))))
      (pss_cons (ps_for PassesOwn.never rfl (pi_list (pe_callB (cr_srtD rfl) (by rfl) B.sorted (by decide +kernel) (pa_cons (pv 2) pa_nil))) (pg_name (i := 4) sc__law_flags_due.nd rfl (Or.inl rfl)) (pss_one (ps_if (PW.pt (pw_or (pt_cmpR op_in_seq (pv 4) (pv 3) (by rfl)) (pw_or (pt_not (pt_val (pe_callB call_isA (by rfl) B.isinstance (by decide +kernel) (pa_cons (pe_dget (un_of hr) (pv 2) (pv 4) (fun _ _ => rfl)) (pa_cons (pe_bltn (v := .ty "str") (by rfl) B.str PyProof.Rows.Boot.«str» rfl) pa_nil))))) (pw_or1 (pt_cmpR (op_notInS (un_of hr)) (pe_dget (un_of hr) (pv 2) (pv 4) (fun _ _ => rfl)) (pv 0) (by rfl)))))) (pss_one (ps_ret (pe_lst (pa_cons pe_str (pa_cons (pv 4) pa_nil))))) pss_nil)))
      (pss_one (ps_ret pe_non)))))), ?_⟩
    have due : ∀ (x : Option Str), flagsDue2 ks (linksD fs) d = some x → ∀ H1, Same H H1 → ∀ dd, H1 dd = none → Q (.ref dd) (upd H1 dd (.lst [.str "flags", nameV x])) := fun x e H1 k dd hd => by
      rw [e] at hQ
      exact hQ _ dd (k.trans (same_new hd)) (k.free hd) upd_same
    have none_due : flagsDue2 ks (linksD fs) d = none → ∀ H1, Same H H1 → Q .non H1 := fun e H1 k => by
      rw [e] at hQ
      exact hQ H1 k
    have k0 := Same.refl H
    refine ⟨_, rfl, _, _, _, d, _, rfl, .ty _, D.x, kit_d (by simp) d, _, rfl, ?_⟩
    cases ht : isT "tuple" d with
    | true =>
      refine iteT ?_
      obtain ⟨at', ys, es, rfl, rfl, hsqt, hln, DAt⟩ : ∃ at' ys es, v = .ref at' ∧ d = .tuple es ∧ SqT K H at' ys ∧ ys.length ≤ big ∧ DpCAll P w K H ys es := by
        cases D with
        | tup h1 h2 h3 => exact ⟨_, _, _, rfl, rfl, h1, h2, h3⟩
        | _ => cases ht
      have hle : ys.length = es.length := DAt.length
      refine ⟨_, rfl, at', ys, rfl, .inr hsqt, rfl, _, rfl, ?_⟩
      cases es with
      | nil =>
        rw [show decide (V.int (ys.length : Int) = V.int 0) = true by simp [hle]]
        exact iteT (none_due rfl H k0)
      | cons e0 es =>
        rw [show decide (V.int (ys.length : Int) = V.int 0) = false by simp [hle]; omega]
        refine iteF ?_
        refine ⟨_, rfl, _, _, _, _, _, rfl, .ty _, D.x, kit_d (by simp) _, _, rfl, ?_⟩
        exact iteT (iteT ⟨(by show 2 ≤ sizeLine; decide), fun dd hdd => due none rfl H k0 dd hdd⟩)
    | false =>
      refine iteF (iteF ?_)
      have e2 : flagsDue2 ks (linksD fs) d = flagsDue ks (linksD fs) d := by
        unfold flagsDue2
        split
        · cases ht
        · rfl
      rw [e2] at due none_due
      refine ⟨_, rfl, _, _, _, d, _, rfl, .ty _, D.x, kit_d (by simp) d, _, rfl, ?_⟩
      cases hd : isT "dict" d with
      | false =>
        refine iteT (iteT ⟨(by show 2 ≤ sizeLine; decide), fun dd hdd => due none ?_ H (Same.refl H) dd hdd⟩)
        cases d with
        | dict x => cases hd
        | _ => rfl
      | true =>
        refine iteF ?_
        cases D with
        | @dct af es ds hc hlen hk he ha =>
        have D : DpC P w K H (.ref af) (.dict ds) := .dct hc hlen hk he ha
        have hl : ds.length = es.length := by have := congrArg List.length he; simpa using this
        refine ⟨_, rfl, af, es, rfl, hc.v, _, _, rfl, rfl, _, rfl, ?_⟩
        have bad : namesToD 12 (.dict ds) = false → flagsDue ks (linksD fs) (.dict ds) = some none := fun e => by simp [flagsDue, e]
        by_cases hm : ((es.length : Nat) : Int) > 12
        · rw [decide_eq_true hm]
          refine iteT (iteT ⟨(by show 2 ≤ sizeLine; decide), fun dd hdd => due none (bad ?_) H (Same.refl H) dd hdd⟩)
          have : ¬ (ds.length : Int) ≤ 12 := by omega
          simp only [namesToD, decide_eq_false this, Bool.false_and]
        · rw [decide_eq_false hm]
          refine iteF ?_
          have hle : (ds.length : Int) ≤ 12 := by omega
          have enm : namesToD 12 (.dict ds) = ds.all fun p => isNameD p.1 := by simp only [namesToD, decide_eq_true hle, Bool.true_and]
          refine all_namesT (i := 2) (j := 4) (σ := [some (.ref a), some (.ref hh), some (.ref af), none, none]) hc hlen hk he (nf af _ rfl rfl) rfl (by show 4 < 5; decide) (fun _ => rfl) ?_
          intro H1 k1
          cases hn : ds.all fun p => isNameD p.1 with
          | false =>
            exact iteT ⟨(by show 2 ≤ sizeLine; decide), fun dd hdd => due none (bad (enm.trans hn)) H1 k1 dd hdd⟩
          | true =>
            refine iteF ?_
            rw [hn] at enm
            have hnm : ∀ p ∈ ds, isNameD p.1 = true := List.all_eq_true.mp hn
            obtain ⟨kvs, N⟩ := names_at D hnm
            obtain ⟨fs', efs, hf12, hfn, hff, _⟩ := fields_ok hfd
            cases efs
            obtain ⟨kfs, M⟩ := names_at Df hfn
            have hlf : (keysD fs).length ≤ 12 := by rw [M.len]; exact hf12
            refine ⟨_, rfl, hh, kfs, rfl, rd_same k1 M.rd, fun c hc' => ?_⟩
            have ekv : (kfs.map fun kv => kV kv.1) = (keysD fs).map V.str := by
              have q := congrArg (List.map kV) M.keys
              rw [List.map_map, List.map_map] at q
              exact q
            rw [ekv]
            have k2 : Same H (upd H1 c (.lst ((keysD fs).map V.str))) := k1.trans (same_new hc')
            have hc2 : upd H1 c (.lst ((keysD fs).map V.str)) c = some (.lst ((keysD fs).map V.str)) := upd_same
            revert k2 hc2
            generalize upd H1 c (.lst ((keysD fs).map V.str)) = H2
            intro k2 hc2
            have hhf : H hh = some (.dK kfs) := by
              rcases M.rd with h | ⟨o, h⟩
              · exact h
              · exact absurd h (nff _ _)
            have hhc : hh ≠ c := fun e => by
              have q := k2 hh _ hhf
              rw [e, hc2] at q
              cases q
            refine ⟨hh, .dK kfs, k2 hh _ hhf, trivial, fun od => ?_⟩
            have hU : DictU P w hh (.dK kfs) (kfs.map flK) := .inl ⟨kfs, rfl, rfl⟩
            refine ⟨_, rfl, hh, od, .dK kfs, kfs.map flK, rfl, upd_same, hU, fun D' hD' => ?_⟩
            have ekl : kfs.length = (keysD fs).length := by
              have := congrArg List.length M.keys
              simpa using this
            refine lc_flt (walk_keysX hU) (fun Hx k => k hh _ upd_same) hD' (by rw [List.length_map, sizeLine_eq]; omega) (fun i => ((keysD fs)[i]?).map fun z => bV (backD (valD fs z))) ?_ ?_
            · rintro i x Hx Hy hi kx ⟨rfl, m, v', hm', rfl⟩ Nx hN
              refine ⟨rfl, tYes_in ?_⟩
              obtain ⟨z, hz, rfl⟩ : ∃ z, (keysD fs)[i]? = some z ∧ m = .fl (.str z) := by
                have q := congrArg (fun l => (l[i]?)) M.keys
                simp only [List.getElem?_map] at q
                rw [List.getElem?_map] at hm'
                cases e : kfs[i]? with
                | none => rw [e] at hm'; cases hm'
                | some kv =>
                  rw [e] at hm' q
                  cases e4 : (keysD fs)[i]? with
                  | none => rw [e4] at q; cases q
                  | some z =>
                    rw [e4] at q
                    have q' : kv.1 = Sum.inr z := Option.some.inj q
                    have hm2 : flK kv = (m, v') := Option.some.inj hm'
                    refine ⟨z, rfl, ?_⟩
                    have : m = .fl (kV kv.1) := (congrArg Prod.fst hm2).symm
                    rw [this, q']
                    rfl
              have hmem : z ∈ keysD fs := List.mem_of_getElem? hz
              obtain ⟨u, hu, Du⟩ := M.vals z hmem
              obtain ⟨d0, d1, d2, d3, ed, _, _, hb2, _⟩ := field_four (hff z hmem)
              rw [ed] at Du
              obtain ⟨t, y0, y1, y2, y3, rfl, hsq4, D2⟩ : ∃ t y0 y1 y2 y3, u = .ref t ∧ SqT K H t [y0, y1, y2, y3] ∧ DpC P w K H y2 d2 := by
                cases Du with
                | tup h1 h2 h3 =>
                  obtain ⟨y0, y1, y2, y3, rfl⟩ := four h3.length
                  exact ⟨_, _, _, _, _, rfl, h1, (all4 h3).2.2.1⟩
              have eb : backD (valD fs z) = d2 := by rw [ed]; rfl
              have ey : y2 = bV d2 := by
                rcases hb2 with rfl | hnm2
                · cases D2
                  rfl
                · obtain ⟨y, rfl, _, _⟩ := isName_str hnm2
                  cases D2
                  rfl
              have dg : DGet Hy hh (.str z) (some (.ref t)) := by
                have q := dget_rd (z := z) (H := Hy) (a := hh) (kvs := kfs) (.inr ⟨od, kx hh _ upd_same⟩)
                rw [hu] at q
                exact q
              have hst : SqT K Hy t [y0, y1, y2, y3] := sqT_same kx (sqT_lock (sqT_same k2 hsq4) (k2 hh _ hhf) (fun _ z => nomatch z) (fun _ _ z => nomatch z))
              refine ⟨_, rfl, _, rfl, hh, .ref t, rfl, dg, t, _, _, y2, rfl, rfl, hst, rfl, ?_⟩
              have q := hN Hy (Same.refl _)
              rw [hz] at q
              rw [ey, ← eb]
              exact q
            · intro Hx kx hDx
              have e1 : (List.range (kfs.map flK).length).filterMap (fun i => ((keysD fs)[i]?).map fun z => bV (backD (valD fs z))) = (keysD fs).map fun z => bV (backD (valD fs z)) := by
                rw [List.length_map, ekl, fm_all (F := fun z => some (bV (backD (valD fs z)))) (fun i x hx => by rw [hx]; rfl)]
                simp
              rw [e1] at hDx
              have hne : D' ≠ hh := fun e => by rw [e, upd_same] at hD'; cases hD'
              have k3 : Same H2 (upd Hx hh (.dK kfs)) := same_unlock (k2 hh _ hhf) kx
              refine ⟨kx hh _ upd_same, ?_⟩
              have hD3 : upd Hx hh (.dK kfs) D' = some (.lst ((keysD fs).map fun z => bV (backD (valD fs z)))) := by rw [upd_ne hne]; exact hDx
              have hc3 : upd Hx hh (.dK kfs) c = some (.lst ((keysD fs).map V.str)) := k3 c _ hc2
              revert k3 hD3 hc3
              generalize upd Hx hh (.dK kfs) = H3
              intro k3' hD3 hc3
              have k3 := k2.trans k3'
              refine ⟨c, D', _, _, rfl, rfl, hc3, hD3, ?_, fun l hl' => ?_⟩
              · rw [List.length_map, List.length_map, sizeLine_eq]
                omega
              have k4 : Same H (upd H3 l (.lst ((keysD fs).map V.str ++ (keysD fs).map fun z => bV (backD (valD fs z))))) := k3.trans (same_new hl')
              have hl4 : upd H3 l (.lst ((keysD fs).map V.str ++ (keysD fs).map fun z => bV (backD (valD fs z)))) l = some (.lst ((keysD fs).map V.str ++ (keysD fs).map fun z => bV (backD (valD fs z)))) := upd_same
              revert k4 hl4
              generalize upd H3 l (.lst ((keysD fs).map V.str ++ (keysD fs).map fun z => bV (backD (valD fs z)))) = H4
              intro k4 hl4
              have hlk : (keysD ds).length < 64 := by rw [N.len]; omega
              refine ⟨_, rfl, af, kvs, keysD ds, rfl, rd_same k4 N.rd, N.keys, hlk, fun p hp => ?_⟩
              have gd : flagsDue ks (linksD fs) (.dict ds) = (goG ks (linksD fs) ds (srt (keysD ds))).map some := by simp only [flagsDue, enm, if_true]
              refine ⟨p, rfl, ⟨_, SqL.of upd_same⟩, ?_⟩
              have hpl : l ≠ p := ne_of_none hl4 hp
              refine for_it (walk_list (xs := (srt (keysD ds)).map V.str)) (fun i σ Hc => Same H Hc ∧ Hc p = some (.lst ((srt (keysD ds)).map V.str)) ∧ Hc l = some (.lst ((keysD fs).map V.str ++ (keysD fs).map fun z => bV (backD (valD fs z)))) ∧ ∃ s4, goG ks (linksD fs) ds (srt (keysD ds)) = goG ks (linksD fs) ds ((srt (keysD ds)).drop i) ∧ σ = [some (.ref a), some (.ref hh), some (.ref af), some (.ref l), s4]) ?_ ?_ ?_ ?_
              · exact ⟨k4.trans (same_new hp), upd_same, by rw [upd_ne hpl]; exact hl4, _, rfl, rfl⟩
              · rintro i σ Hx _ ⟨_, h2, _⟩
                exact SqL.of h2
              · rintro i x σ Hc H' hi ⟨k, hpc, hlc, s4, hgo, rfl⟩ ⟨rfl, hx⟩
                rw [List.length_map] at hi
                obtain ⟨z, hz, rfl⟩ : ∃ z, (srt (keysD ds))[i]? = some z ∧ x = .str z := by
                  rw [List.getElem?_map] at hx
                  cases e : (srt (keysD ds))[i]? with
                  | none => rw [e] at hx; cases hx
                  | some z => rw [e] at hx; cases hx; exact ⟨z, rfl, rfl⟩
                have hmem : z ∈ keysD ds := srt_mem.mp (List.mem_of_getElem? hz)
                obtain ⟨u, hu, Du⟩ := N.vals z hmem
                have hdrop : (srt (keysD ds)).drop i = z :: (srt (keysD ds)).drop (i + 1) := by
                  rw [List.drop_eq_getElem_cons hi]
                  rw [List.getElem?_eq_getElem hi] at hz
                  cases hz
                  rfl
                rw [hdrop] at hgo
                have dg : ∀ {Hz : Hp}, Same H Hz → DGet Hz af (.str z) (some u) := fun kz => by
                  have q := dget_rd (z := z) (rd_same kz N.rd)
                  rw [hu] at q
                  exact q
                have found : (decide (z ∈ linksD fs) || !kindOfD ks (valD ds z)) = true → ∀ dd, H' dd = none → Q (.ref dd) (upd H' dd (.lst [.str "flags", nameV (some z)])) := fun e dd hd => by
                  refine due (some z) ?_ H' k dd hd
                  rw [gd, hgo]
                  unfold goG
                  rw [if_pos e]
                  rfl
                have next : (decide (z ∈ linksD fs) || !kindOfD ks (valD ds z)) = false → goG ks (linksD fs) ds (srt (keysD ds)) = goG ks (linksD fs) ds ((srt (keysD ds)).drop (i + 1)) := fun e => by
                  rw [hgo]
                  show (if (decide (z ∈ linksD fs) || !kindOfD ks (valD ds z)) = true then _ else _) = _
                  rw [e]
                  rfl
                refine ⟨_, rfl, _, rfl, l, _, rfl, .inl (SqL.of hlc), rfl, by rw [List.all_append, flat_strs, flat_backs]; rfl, _, rfl, ?_⟩
                rw [show (if false = true then !inV (V.str z) ((keysD fs).map V.str ++ (keysD fs).map fun z => bV (backD (valD fs z))) else inV (V.str z) ((keysD fs).map V.str ++ (keysD fs).map fun z => bV (backD (valD fs z)))) = decide (z ∈ linksD fs) by
                  show inV (V.str z) ((keysD fs).map V.str ++ (keysD fs).map fun z => bV (backD (valD fs z))) = _
                  rw [in_app, in_strs, in_backs]
                  simp [linksD]]
                cases hin : decide (z ∈ linksD fs) with
                | true =>
                  exact iteT (iteT ⟨_, rfl, (by show 2 ≤ sizeLine; decide), fun dd hd => found (by rw [hin]; rfl) dd hd⟩)
                | false =>
                  refine iteF ?_
                  refine ⟨_, rfl, _, rfl, af, u, rfl, dg k, _, _, _, _, _, rfl, .ty _, (Du.same k).x, kit_d (by simp) _, _, rfl, ?_⟩
                  cases hst : isT "str" (valD ds z) with
                  | false =>
                    have ek : kindOfD ks (valD ds z) = false := by
                      cases e : valD ds z with
                      | str x => rw [e] at hst; cases hst
                      | _ => rfl
                    exact iteT (iteT ⟨_, rfl, (by show 2 ≤ sizeLine; decide), fun dd hd => found (by rw [ek, hin]; rfl) dd hd⟩)
                  | true =>
                    refine iteF ?_
                    obtain ⟨x, ex⟩ : ∃ x, valD ds z = .str x := by
                      cases e : valD ds z with
                      | str x => exact ⟨x, rfl⟩
                      | _ => rw [e] at hst; cases hst
                    have hv : u = .str x := by rw [ex] at Du; cases Du; rfl
                    subst hv
                    refine ⟨_, rfl, _, rfl, af, _, rfl, dg k, _, rfl, x, a, xs, ks, rfl, rfl, seqs_same k hsq, (DA.same k).x, _, rfl, ?_⟩
                    have ek : kindOfD ks (valD ds z) = hasS x xs := by rw [ex]; exact (hasS_D x DA).symm
                    show ite ((!hasS x xs) = true) _ _
                    cases hx : hasS x xs with
                    | false =>
                      exact iteT ⟨_, rfl, (by show 2 ≤ sizeLine; decide), fun dd hd => found (by rw [ek, hx, hin]; rfl) dd hd⟩
                    | true =>
                      refine iteF ⟨k, hpc, hlc, _, next (by rw [ek, hx, hin]; rfl), rfl⟩
              · rintro σ Hx ⟨k, _, _, s4, hgo, _⟩
                refine none_due ?_ Hx k
                rw [gd, hgo, List.length_map, List.drop_length]
                rfl
        | _ => cases hd
end

end K17
end
section
set_option Elab.async false
set_option linter.all false
set_option maxRecDepth 100000
set_option maxHeartbeats 4000000
/-! EK14: methods of the text with their promises -/
namespace L2
open PySem PySem.Spec PyProof.Rows PySem.EK
/-- the def st is the method m of the class at C; q its whole name -/
def MDef (K : PySem.W.Frag) (C : Addr) (m q : Str) (st : Stmt) : Prop := ∃ f fd, FunD K m q (defArgs st) (defBody st) (defScope st) [] [] f fd ∧ Meth K C m f
def MCal (P : Program) (w : World) (K : PySem.W.Frag) (mg : Str → Option Value) (base : Heap) (CX : CXT) (k : Nat) (C : Addr) (m : Str) (ps : List Str) (sp : Sp) : Prop :=
  ∃ f fd, FnOk P w K mg base CX k f fd ps sp ∧ Meth K C m f ∧ Binds K fd ps []
section
variable {P : Program} {w : World} {K : PySem.W.Frag} {mg : Str → Option Value} {base : Heap} {CX : CXT} {C : Addr}
theorem mcal_of {m q : Str} {st : Stmt} {N ps : List Str} {k : Nat} {sp : Sp} (h : MDef K C m q st) (S : FnScope N ps (defScope st)) (len : ∀ vs H Q E, sp vs H Q E → vs.length = ps.length)
    (hb : ∀ (kV doc pm : Value) (an : Option Addr) (cdv ct : Value) (us : List Value), us.length = ps.length → bindArgs (PySem.W.fnOf m q (defArgs st) (defBody st) (defScope st) .none kV doc pm an cdv ct) ⟨us, []⟩ = pure (ps.zip us))
    (hbody : ∀ (f : Addr) (cdv : Value) (A : Around) (outer : List Env) (s : Shared) (H : Hp) (vs : List V) (Q : VK) (E : XK), Room k (A.deeper (envOfC q (defScope st) s.heap.objs.size f cdv)) → sp vs H Q E →
      ∃ t, PSs (cxOf CX P w K mg base N q (defScope st) f cdv A outer s H E) (defBody st) t ∧ t { nx := fun _ H' => Q .non H', rt := Q } (start N vs) H) : MCal P w K mg base CX (k + 1) C m ps sp := by
  obtain ⟨f, fd, F, m⟩ := h
  exact ⟨f, fd, F.ok S len (hbody f), m, F.bindsN hb⟩
end
section
variable {X : Cx} {CX : CXT} {k j : Nat} {C : Addr} {ps : List Str} {sp : Sp} {E : XK} {m : Str} {p pos apos : Pos} {o e : Expr} {es : List Expr} {ta : TE} {t : TA}
theorem pe_me0 {pl : Sem Bool} (he : PE X o ta) (c : Cls X.K C) (M : MCal X.prog X.w X.K X.mg X.base CX k C m ps sp) (hr : Room j X.A) (hx : Passes CX X E) (hk : k ≤ j := by decide)
    (ht : eval (.Call (.Attribute o m apos) [] [] pos) X.env = (do
      let ov ← eval o X.env
      standAt apos.atName
      let (f, first) ← holding [ov] (getMethod ov m pl)
      callWith pos f first (backTo pos (starEach [] X.env)) (backToKw pos (keywordEach [] X.env))) := by rfl) :
    PE X (.Call (.Attribute o m apos) [] [] pos) (tMeth C m sp [] E ta tNil) := by
  obtain ⟨f, fd, F, hm, hb⟩ := M
  exact pe_meth0 (pl := pl) he c hm F (hr.mono hk) hb .nil hx ht
theorem pe_me {pl : Sem Bool} (he : PE X o ta) (c : Cls X.K C) (M : MCal X.prog X.w X.K X.mg X.base CX k C m ps sp) (hr : Room j X.A) (hx : Passes CX X E) (ha : PA X (e :: es) t) (hk : k ≤ j := by decide)
    (hst : starEach (e :: es) X.env = (false, eval e X.env) :: starEach es X.env := by rfl) (hpl : (backTo pos (starEach es X.env)).any (·.1) = false := by rfl)
    (ht : eval (.Call (.Attribute o m apos) (e :: es) [] pos) X.env = (do
      let ov ← eval o X.env
      standAt apos.atName
      let (f, first) ← holding [ov] (getMethod ov m pl)
      callWith pos f first (backTo pos (starEach (e :: es) X.env)) (backToKw pos (keywordEach [] X.env))) := by rfl) :
    PE X (.Call (.Attribute o m apos) (e :: es) [] pos) (tMeth C m sp [] E ta t) := by
  obtain ⟨f, fd, F, hm, hb⟩ := M
  exact pe_meth (pl := pl) he c hm F (hr.mono hk) hb .nil hx ha hst hpl ht
end
end L2
end
section
set_option Elab.async false
set_option linter.all false
set_option maxRecDepth 100000
set_option maxHeartbeats 4000000
namespace K17
open PySem PySem.Spec PyProof.Rows L2 PySem.EK

abbrev s_Schema_links : Stmt := inClass (top 20) 4
/-- the class Schema in the written part -/
structure SchT (K : PySem.W.Frag) (mg : Str → Option Value) (C : Addr) : Prop where
  cl : Cls K C
  nk : NoAttr K C "own_kinds"
  nf : NoAttr K C "own_fields"
  nl : NoAttr K C "own_lists"
  ng : NoAttr K C "own_flags"
  g : mg "Schema" = some (.ref C)
def spLinks (C : Addr) : Sp := fun vs H Q _ => ∃ (x dx p2 p3 : Addr) (fs : List (Str × V)) (k2 k3 : List (Key × V)) (ks ls : List Str), vs = [.ref x] ∧ H x = some (.ins C dx fs) ∧ fs.lookup ("own_fields" : Str) = some (.ref p2) ∧ fs.lookup ("own_lists" : Str) = some (.ref p3) ∧
  Rd H p2 (.dK k2) ∧ Rd H p3 (.dK k3) ∧ k2.map (·.1) = ks.map Sum.inr ∧ k3.map (·.1) = ls.map Sum.inr ∧ ks.length + ls.length < 64 ∧ ∀ H' p, Same H H' → H p = none → H' p = some (.lst ((srt (ks ++ ls)).map V.str)) → Q (.ref p) H'
theorem keys_strs {kvs : List (Key × V)} {ks : List Str} (h : kvs.map (·.1) = ks.map Sum.inr) : (kvs.map fun kv => kV kv.1) = ks.map V.str := by
  have q := congrArg (List.map kV) h
  rw [List.map_map, List.map_map] at q
  exact q
section
variable {P : Program} {w : World} {K : PySem.W.Frag} {mg : Str → Option Value} {base : Heap} {C : Addr}
theorem sc_Schema_links : FnScope ["self"] ["self"] (defScope s_Schema_links) := ⟨rfl, rfl, rfl, by decide +kernel, rfl, by decide +kernel, by decide +kernel⟩
theorem c_links (h : MDef K C "links" "Schema.links" s_Schema_links) (B : Bl mg) (T : SchT K mg C) : MCal P w K mg base CX0 1 C "links" ["self"] (spLinks C) := by
  refine mcal_of h sc_Schema_links (fun vs H Q E h => ?_) (fun _ _ _ _ _ _ us hl => match us, hl with | [_], _ => rfl) (fun f cdv A outer s H vs Q E hr h => ?_)
  · obtain ⟨x, dx, p2, p3, fs, k2, k3, ks, ls, rfl, _⟩ := h
    rfl
  · obtain ⟨x, dx, p2, p3, fs, k2, k3, ks, ls, rfl, hx, l2, l3, h2, h3, e2, e3, hlen, hQ⟩ := h
    refine ⟨_, PSs.nox (pss_one (ps_ret (pe_callB cr_srt (by rfl) B.sorted (by decide +kernel) (pa_cons (pe_op op_cat (pe_callTy (call_listD rfl) (by rfl) B.list (by decide +kernel) (pa_cons (pe_fld (pv 0) rfl) pa_nil)) (pe_callTy (call_listD rfl) (by rfl) B.list (by decide +kernel) (pa_cons (pe_fld (pv 0) rfl) pa_nil))) pa_nil)))), ?_⟩
    refine ⟨_, rfl, x, C, dx, fs, _, rfl, hx, T.cl, T.nf, l2, p2, k2, rfl, h2, fun c hc => ?_⟩
    rw [keys_strs e2]
    have s1 : Same H (upd H c (.lst (ks.map V.str))) := same_new hc
    refine ⟨_, rfl, x, C, dx, fs, _, rfl, s1 _ _ hx, T.cl, T.nl, l3, p3, k3, rfl, rd_same s1 h3, fun c2 hc2 => ?_⟩
    rw [keys_strs e3]
    have s2 := same_new (o := .lst (ls.map V.str)) hc2
    refine ⟨c, c2, _, _, rfl, rfl, s2 _ _ upd_same, upd_same, ?_, fun m hm => ?_⟩
    · rw [List.length_map, List.length_map, sizeLine_eq]
      omega
    rw [← List.map_append]
    refine ⟨m, _, rfl, SqL.of upd_same, by rw [List.length_append]; exact hlen, fun p hp => ?_⟩
    have s3 := (s1.trans s2).trans (same_new (o := .lst ((ks ++ ls).map V.str)) hm)
    exact hQ _ p (s3.trans (same_new hp)) (s3.free hp) upd_same
end

end K17
end
section
set_option Elab.async false
set_option linter.all false
set_option maxRecDepth 100000
set_option maxHeartbeats 4000000
namespace K17
open PySem PySem.Spec PyProof.Rows L2 PySem.EK
/-! the mathematics of a schema -/
inductive Ver
  | kinds (o : Option Nat)
  | fields (o : Option Str)
  | flags (o : Option Str)
def seqD (d : PyData) : List PyData := (seqOf d).getD []
def dictD : PyData → List (PyData × PyData)
  | .dict ds => ds
  | _ => []
def dueD (dk df dg : PyData) : Option Ver := match kindsDue dk with
  | some o => some (.kinds o)
  | none => match fieldsDue (seqD dk) df with
    | some o => some (.fields o)
    | none => (flagsDue2 (seqD dk) (linksD (dictD df)) dg).map Ver.flags
def strsD (ds : List PyData) : List Str := ds.filterMap strOf
def strD (d : PyData) : Str := (strOf d).getD Str.empty
def fsV (kvs : List (Key × V)) (ds : List (PyData × PyData)) : List (Str × V) := (srt (keysD ds)).map fun z => (z, (valV kvs (Sum.inr z)).getD .non)
def ownerD (ds : List (PyData × PyData)) (b : Str) (l : List Str) : Str := (l.find? fun z => decide (strOf (backD (valD ds z)) = some b)).getD Str.empty
def lsD (ds : List (PyData × PyData)) : List (Str × Str) := (srt (backs ds (keysD ds))).map fun b => (b, ownerD ds b (keysD ds))
def gsD (d : PyData) : List (Str × Str) := (srt (keysD (dictD d))).map fun z => (z, strD (valD (dictD d) z))
def verF : Ver → List (Str × V)
  | .kinds o => [("position", posV o)]
  | .fields o => [("name", nameV o)]
  | .flags o => [("name", nameV o)]
def verC (CK CF CG : Addr) : Ver → Addr
  | .kinds _ => CK
  | .fields _ => CF
  | .flags _ => CG
/-- a schema stands at x -/
def SchO (C : Addr) (H0 H : Hp) (x : Addr) (ks : List Str) (fs : List (Str × V)) (ls gs : List (Str × Str)) : Prop := ∃ dx p1 p2 p3 p4, (H0 p1 = none ∧ H0 p2 = none ∧ H0 p3 = none ∧ H0 p4 = none) ∧ H x = some (.ins C dx [("own_kinds", .ref p1), ("own_fields", .ref p2), ("own_lists", .ref p3), ("own_flags", .ref p4)]) ∧
  H p1 = some (.lst (ks.map V.str)) ∧ H p2 = some (.dK (fs.map fun p => (Sum.inr p.1, p.2))) ∧ H p3 = some (.dK (ls.map fun p => (Sum.inr p.1, V.str p.2))) ∧ H p4 = some (.dK (gs.map fun p => (Sum.inr p.1, V.str p.2)))
theorem SchO.same {C : Addr} {H0 H H' : Hp} (k : Same H H') {x : Addr} {ks : List Str} {fs : List (Str × V)} {ls gs : List (Str × Str)} (h : SchO C H0 H x ks fs ls gs) : SchO C H0 H' x ks fs ls gs := by
  obtain ⟨dx, p1, p2, p3, p4, n, h0, h1, h2, h3, h4⟩ := h
  exact ⟨dx, p1, p2, p3, p4, n, k _ _ h0, k _ _ h1, k _ _ h2, k _ _ h3, k _ _ h4⟩
theorem SchO.upd {C : Addr} {H0 H : Hp} {x l : Addr} {o : HO} {ks : List Str} {fs : List (Str × V)} {ls gs : List (Str × Str)} (h : SchO C H0 H x ks fs ls gs) (hx : H0 x = none) (hl : H0 l ≠ none) : SchO C H0 (L2.upd H l o) x ks fs ls gs := by
  obtain ⟨dx, p1, p2, p3, p4, ⟨n1, n2, n3, n4⟩, h0, h1, h2, h3, h4⟩ := h
  have ne : ∀ {q : Addr}, H0 q = none → q ≠ l := fun hq e => hl (by rw [← e]; exact hq)
  exact ⟨dx, p1, p2, p3, p4, ⟨n1, n2, n3, n4⟩, by rw [upd_ne (ne hx)]; exact h0, by rw [upd_ne (ne n1)]; exact h1, by rw [upd_ne (ne n2)]; exact h2, by rw [upd_ne (ne n3)]; exact h3, by rw [upd_ne (ne n4)]; exact h4⟩
theorem has_str {z : Str} {l : List Str} : hasD z (l.map PyData.str) = decide (z ∈ l) := by
  induction l with
  | nil => rfl
  | cons y r ih =>
    have e : hasD z ((y :: r).map PyData.str) = (decide (y = z) || hasD z (r.map PyData.str)) := rfl
    rw [e, ih]
    by_cases h : y = z
    · simp [h]
    · have h' : ¬ z = y := fun q => h q.symm
      simp [h, h']
theorem kinds_strs : ∀ (ds : List PyData), (∀ i, i < ds.length → kBad ds i = false) → ds = (strsD ds).map PyData.str ∧ (∀ d ∈ ds, isNameD d = true)
  | ds, h => by
    have hn : ∀ d ∈ ds, isNameD d = true := fun d hd => by
      obtain ⟨i, hi, e⟩ := List.getElem_of_mem hd
      have q := h i hi
      unfold kBad at q
      rw [List.getElem?_eq_getElem hi, e] at q
      simp only [Bool.or_eq_false_iff, Bool.not_eq_false'] at q
      exact q.1
    refine ⟨?_, hn⟩
    clear h
    induction ds with
    | nil => rfl
    | cons d r ih =>
      obtain ⟨z, rfl, _⟩ := isName_str (hn d List.mem_cons_self)
      have e : strsD (PyData.str z :: r) = z :: strsD r := rfl
      rw [e, List.map_cons, ← ih fun d hd => hn d (List.mem_cons_of_mem _ hd)]
theorem kinds_ok {d : PyData} (h : kindsDue d = none) : ∃ ds, seqOf d = some ds ∧ ds = (strsD ds).map PyData.str ∧ (∀ e ∈ ds, isNameD e = true) ∧ 1 ≤ ds.length ∧ ds.length ≤ 6 ∧ (strsD ds).Nodup := by
  unfold kindsDue at h
  cases hs : seqOf d with
  | none => rw [hs] at h; cases h
  | some ds =>
    rw [hs] at h
    dsimp only at h
    by_cases hl : 1 ≤ ds.length ∧ ds.length ≤ 6
    · rw [if_pos hl] at h
      have hb : ∀ i, i < ds.length → kBad ds i = false := fun i hi => by
        cases e : (List.range ds.length).find? (kBad ds) with
        | some x => rw [e] at h; cases h
        | none =>
          rw [List.find?_eq_none] at e
          have := e i (List.mem_range.mpr hi)
          simpa using this
      obtain ⟨e, hn⟩ := kinds_strs ds hb
      refine ⟨ds, rfl, e, hn, hl.1, hl.2, ?_⟩
      rw [List.nodup_iff_pairwise_ne, List.pairwise_iff_getElem]
      intro i j hi hj hij heq
      have hlen : ds.length = (strsD ds).length := by
        have := congrArg List.length e
        simpa using this
      have q := hb j (by omega)
      unfold kBad at q
      have ej : ds[j]? = some (PyData.str (strsD ds)[j]) := by
        have z : ds[j]? = ((strsD ds).map PyData.str)[j]? := congrArg (fun l => (l[j]?)) e
        rw [z, List.getElem?_map, List.getElem?_eq_getElem hj]
        rfl
      rw [ej] at q
      simp only [Bool.or_eq_false_iff] at q
      have q2 := q.2
      unfold strIn at q2
      dsimp only at q2
      have et : ds.take j = ((strsD ds).take j).map PyData.str := by
        have z : ds.take j = ((strsD ds).map PyData.str).take j := congrArg (fun l => l.take j) e
        rw [z, List.map_take]
      rw [et, has_str, decide_eq_false_iff_not] at q2
      apply q2
      rw [← heq]
      have hlt : i < ((strsD ds).take j).length := by rw [List.length_take]; omega
      have := List.getElem_mem hlt
      rwa [List.getElem_take] at this
    · rw [if_neg hl] at h
      cases h
theorem goF_backs {ks : List PyData} {ds : List (PyData × PyData)} : ∀ {l taken : List Str}, goF ks ds taken l = none → (backs ds l).Nodup ∧ ∀ y ∈ backs ds l, y ∉ keysD ds ∧ y ∉ taken
  | [], taken, _ => ⟨List.nodup_nil, fun y hy => by cases hy⟩
  | z :: r, taken, h => by
    unfold goF at h
    cases hf : isFieldD ks (valD ds z) with
    | false => rw [hf] at h; cases h
    | true =>
      rw [hf, if_pos rfl] at h
      split at h
      · cases h
      · rename_i hin
        obtain ⟨n1, n2⟩ := goF_backs h
        have eb : backs ds (z :: r) = backL (backD (valD ds z)) ++ backs ds r := rfl
        rw [eb]
        cases hs : strOf (backD (valD ds z)) with
        | none =>
          have e0 : backL (backD (valD ds z)) = [] := by unfold backL; rw [hs]; rfl
          rw [e0] at n2 ⊢
          refine ⟨n1, fun y hy => ⟨(n2 y hy).1, fun q => (n2 y hy).2 (by simpa using q)⟩⟩
        | some b =>
          have e0 : backL (backD (valD ds z)) = [b] := by unfold backL; rw [hs]; rfl
          rw [e0] at n2 ⊢
          unfold inL at hin
          rw [hs] at hin
          simp only [decide_eq_true_eq, List.mem_append, not_or] at hin
          refine ⟨?_, fun y hy => ?_⟩
          · rw [List.singleton_append, List.nodup_cons]
            exact ⟨fun q => (n2 b q).2 (by simp), n1⟩
          · rw [List.singleton_append] at hy
            rcases List.mem_cons.mp hy with rfl | hy
            · exact hin
            · exact ⟨(n2 y hy).1, fun q => (n2 y hy).2 (by simp [q])⟩
theorem backs_perm {ds : List (PyData × PyData)} {l m : List Str} (h : l.Perm m) : (backs ds l).Perm (backs ds m) := h.flatMap_right _
theorem backs_ok {ks : List PyData} {ds : List (PyData × PyData)} (h : goF ks ds [] (srt (keysD ds)) = none) : (backs ds (keysD ds)).Nodup ∧ ∀ y ∈ backs ds (keysD ds), y ∉ keysD ds := by
  obtain ⟨n1, n2⟩ := goF_backs h
  have p := backs_perm (ds := ds) (srt_perm (keysD ds))
  exact ⟨p.nodup_iff.mp n1, fun y hy => (n2 y (p.mem_iff.mpr hy)).1⟩
theorem backs_le (ds : List (PyData × PyData)) : ∀ l : List Str, (backs ds l).length ≤ l.length
  | [] => Nat.le_refl _
  | z :: r => by
    have eb : backs ds (z :: r) = backL (backD (valD ds z)) ++ backs ds r := rfl
    rw [eb, List.length_append, List.length_cons]
    have := backs_le ds r
    have h1 : (backL (backD (valD ds z))).length ≤ 1 := by unfold backL; cases strOf (backD (valD ds z)) <;> simp
    omega
/-- the pairs of the dict of lists -/
def backP (ds : List (PyData × PyData)) (z : Str) : Option (Key × V) := (strOf (backD (valD ds z))).map fun y => (Sum.inr y, V.str z)
theorem backP_keys (ds : List (PyData × PyData)) : ∀ l : List Str, (l.filterMap (backP ds)).map (·.1) = (backs ds l).map Sum.inr
  | [] => rfl
  | z :: r => by
    have eb : backs ds (z :: r) = backL (backD (valD ds z)) ++ backs ds r := rfl
    rw [eb, List.map_append, ← backP_keys ds r, List.filterMap_cons]
    unfold backL backP
    cases strOf (backD (valD ds z)) <;> rfl
theorem backP_val (ds : List (PyData × PyData)) (b : Str) : ∀ l : List Str, b ∈ backs ds l → valV (l.filterMap (backP ds)) (Sum.inr b) = some (.str (ownerD ds b l))
  | [], h => by cases h
  | z :: r, h => by
    have eb : backs ds (z :: r) = backL (backD (valD ds z)) ++ backs ds r := rfl
    rw [eb] at h
    rw [List.filterMap_cons]
    cases hs : strOf (backD (valD ds z)) with
    | none =>
      have e0 : backL (backD (valD ds z)) = [] := by unfold backL; rw [hs]; rfl
      rw [e0, List.nil_append] at h
      have e1 : backP ds z = none := by unfold backP; rw [hs]; rfl
      have e2 : ownerD ds b (z :: r) = ownerD ds b r := by
        unfold ownerD
        rw [List.find?_cons]
        simp [hs]
      rw [e1, e2]
      exact backP_val ds b r h
    | some y =>
      have e0 : backL (backD (valD ds z)) = [y] := by unfold backL; rw [hs]; rfl
      have e1 : backP ds z = some (Sum.inr y, V.str z) := by unfold backP; rw [hs]; rfl
      rw [e1]
      dsimp only
      by_cases hy : y = b
      · subst hy
        have e2 : ownerD ds y (z :: r) = z := by
          unfold ownerD
          rw [List.find?_cons]
          simp [hs]
        rw [e2]
        unfold valV
        rw [List.find?_cons]
        simp
      · rw [e0, List.singleton_append] at h
        have h' : b ∈ backs ds r := by
          rcases List.mem_cons.mp h with q | q
          · exact absurd q.symm hy
          · exact q
        have e2 : ownerD ds b (z :: r) = ownerD ds b r := by
          unfold ownerD
          rw [List.find?_cons]
          simp [hs, hy]
        rw [e2, ← backP_val ds b r h']
        unfold valV
        rw [List.find?_cons]
        simp [hy]
theorem flags_ok {ks : List PyData} {ls : List Str} {d : PyData} (h : flagsDue ks ls d = none) : ∃ ds, d = .dict ds ∧ ds.length ≤ 12 ∧ (∀ p ∈ ds, isNameD p.1 = true) ∧ ∀ z ∈ keysD ds, z ∉ ls ∧ kindOfD ks (valD ds z) = true := by
  cases d with
  | dict ds =>
    cases hn : namesToD 12 (.dict ds) with
    | false => simp only [flagsDue, hn] at h; cases h
    | true =>
      simp only [flagsDue, hn, if_true] at h
      obtain ⟨ds', e, h1, h2⟩ := names_of hn
      cases e
      have hg : goG ks ls ds (srt (keysD ds)) = none := by
        cases q : goG ks ls ds (srt (keysD ds)) with
        | none => rfl
        | some x => rw [q] at h; cases h
      have all : ∀ l, goG ks ls ds l = none → ∀ z ∈ l, z ∉ ls ∧ kindOfD ks (valD ds z) = true := by
        intro l
        induction l with
        | nil => intro _ z hz; cases hz
        | cons y r ih =>
          intro hl z hz
          unfold goG at hl
          split at hl
          · cases hl
          · rename_i hc
            simp only [Bool.or_eq_true, decide_eq_true_eq, Bool.not_eq_true', not_or, Bool.not_eq_false] at hc
            rcases List.mem_cons.mp hz with rfl | hz
            · exact hc
            · exact ih hl z hz
      exact ⟨ds, rfl, by omega, h2, fun z hz => all _ hg z (srt_mem.mpr hz)⟩
  | _ => cases h
theorem kind_str {ks : List PyData} {d : PyData} (h : kindOfD ks d = true) : ∃ z, d = .str z ∧ hasD z ks = true := by
  cases d with
  | str z => exact ⟨z, rfl, h⟩
  | _ => cases h
theorem inr_nodup {l : List Str} (h : l.Nodup) : (l.map (Sum.inr : Str → Key)).Nodup := by
  rw [List.nodup_iff_pairwise_ne] at *
  exact List.pairwise_map.mpr (h.imp fun {a b} z q => z (by cases q; rfl))
theorem nodup_inr {l : List Str} (h : (l.map (Sum.inr : Str → Key)).Nodup) : l.Nodup := by
  rw [List.nodup_iff_pairwise_ne] at *
  exact (List.pairwise_map.mp h).imp fun {a b} z q => z (by rw [q])
end K17
end
section
set_option Elab.async false
set_option linter.all false
set_option maxRecDepth 100000
set_option maxHeartbeats 4000000
namespace K17
open PySem PySem.Spec PyProof.Rows L2 PySem.EK

abbrev s_Schema___init__ : Stmt := inClass (top 20) 0
def EndsI (P : Program) (w : World) (K : PySem.W.Frag) (C CK CF CG : Addr) (H0 : Hp) (x : Addr) (vf : V) (dk df dg : PyData) (Q : VK) (E : XK) : Option Ver → Prop
  | some v => ∀ H' dd, Same H0 H' → H0 dd = none → H' dd = some (.xd (verF v)) → E (.ref (verC CK CF CG v)) (some dd) H'
  | none => ∀ H' af ds kvs, vf = .ref af → df = .dict ds → NamesAt P w K H0 af ds kvs → Same H0 H' → SchO C H0 H' x (srt (strsD (seqD dk))) (fsV kvs ds) (lsD ds) (gsD dg) → Q .non H'
def spInit (P : Program) (w : World) (K : PySem.W.Frag) (C CK CF CG : Addr) : Sp := fun vs H Q E => ∃ (H0 : Hp) (x dx : Addr) (vk vf vg : V) (dk df dg : PyData), vs = [.ref x, vk, vf, vg] ∧ Same H0 H ∧ H0 x = none ∧ H x = some (.ins C dx []) ∧
  DpC P w K H0 vk dk ∧ DpC P w K H0 vf df ∧ DpC P w K H0 vg dg ∧ NF H0 vf df ∧ NF H0 vg dg ∧ EndsI P w K C CK CF CG H0 x vf dk df dg Q E (dueD dk df dg)
/-- Schema's __init__ stands, with its default -/
def IDef (K : PySem.W.Frag) (C e0 f : Addr) (fd : FuncData) : Prop := FunD K "__init__" "Schema.__init__" (defArgs s_Schema___init__) (defBody s_Schema___init__) (defScope s_Schema___init__) [.ref e0] [] f fd ∧ Mk K C f
theorem walk_strs {K : PySem.W.Frag} {a : Addr} {l : List Str} : Walk (Itl K a) l.length (fun H => SqL K H a (l.map V.str)) (fun i H x H' => H' = H ∧ ∃ z, l[i]? = some z ∧ x = .str z) := by
  have wl := walk_list (K := K) (a := a) (xs := l.map V.str)
  refine ⟨fun i H hi q => wl.goes i H (by rwa [List.length_map]) q, fun H q => by have := wl.stops H q; rwa [List.length_map] at this, fun i H x H' hi q y => ?_⟩
  obtain ⟨h1, h2⟩ := wl.yields i H x H' (by rwa [List.length_map]) q y
  refine ⟨h1, ?_⟩
  rw [List.getElem?_map] at h2
  cases e : l[i]? with
  | none => rw [e] at h2; cases h2
  | some z => rw [e] at h2; cases h2; exact ⟨z, rfl, rfl⟩
theorem fm_strs {β : Type} {l : List Str} (F : Str → β) : (List.range l.length).filterMap (fun i => (l[i]?).map F) = l.map F := by
  rw [fm_all (F := fun z => some (F z)) (fun i x hx => by rw [hx]; rfl)]
  simp
theorem names_kv {P : Program} {w : World} {K : PySem.W.Frag} {H : Hp} {a : Addr} {ds : List (PyData × PyData)} {kvs : List (Key × V)} (N : NamesAt P w K H a ds kvs) (nd : (kvs.map (·.1)).Nodup) : (keysD ds).Nodup := by
  rw [N.keys] at nd
  exact nodup_inr nd
theorem valV_get : ∀ {kvs : List (Key × V)} {l : List Str} {i : Nat} {kv : Key × V} {z : Str}, l.Nodup → kvs.map (·.1) = l.map Sum.inr → kvs[i]? = some kv → kv.1 = Sum.inr z → valV kvs (Sum.inr z) = some kv.2
  | [], _, _, _, _, _, _, h, _ => by simp at h
  | p :: r, [], _, _, _, _, e, _, _ => by cases e
  | p :: r, y :: l, i, kv, z, nd, e, h, ez => by
    have e1 : p.1 = Sum.inr y := (List.cons.inj e).1
    have e2 : r.map (·.1) = l.map Sum.inr := (List.cons.inj e).2
    cases i with
    | zero =>
      simp at h
      subst h
      unfold valV
      rw [List.find?_cons]
      simp [ez]
    | succ i =>
      have h' : r[i]? = some kv := by simpa using h
      have ih := valV_get (List.nodup_cons.mp nd).2 e2 h' ez
      have hz : z ∈ l := by
        have q := congrArg (fun l => (l[i]?)) e2
        simp only [List.getElem?_map] at q
        rw [h'] at q
        cases e4 : l[i]? with
        | none => rw [e4] at q; cases q
        | some x =>
          rw [e4] at q
          have this : kv.1 = Sum.inr x := Option.some.inj q
          rw [ez] at this
          cases this
          exact List.mem_of_getElem? e4
      have hne : ¬ p.1 = Sum.inr z := fun q => by
        rw [e1] at q
        cases q
        exact (List.nodup_cons.mp nd).1 hz
      rw [← ih]
      unfold valV
      rw [List.find?_cons]
      simp [hne]
section
variable {P : Program} {w : World} {K : PySem.W.Frag} {mg : Str → Option Value} {base : Heap} {C CK CF CG e0 f : Addr} {fd : FuncData}
theorem sc_Schema___init__ : FnScope ["self", "kinds", "fields", "flags", "backs", "given", "name", "row", "back"] ["self", "kinds", "fields", "flags"] (defScope s_Schema___init__) := ⟨rfl, rfl, rfl, by decide +kernel, rfl, by decide +kernel, by decide +kernel⟩
theorem ok_init (F : IDef K C e0 f fd) (B : Bl mg) (T : SchT K mg C) (C_check_kinds : Cal P w K mg base (CX P w) 2 "check_kinds" ["kinds"] (spCkKinds P w K CK)) (C_check_fields : Cal P w K mg base (CX P w) 3 "check_fields" ["fields", "kinds"] (spCkFields P w K CF))
    (C_check_flags : Cal P w K mg base (CX P w) 3 "check_flags" ["flags", "kinds", "links"] (spCkFlags P w K CG)) (M_links : MCal P w K mg base CX0 1 C "links" ["self"] (spLinks C)) :
    FnOk P w K mg base (CX P w) 4 f fd ["self", "kinds", "fields", "flags"] (spInit P w K C CK CF CG) := by
  refine F.1.ok sc_Schema___init__ (fun vs H Q E h => ?_) (fun cdv A outer s H vs Q E hr h => ?_)
  · obtain ⟨H0, x, dx, vk, vf, vg, dk, df, dg, rfl, _⟩ := h
    rfl
  · obtain ⟨H0, x, dx, vk, vf, vg, dk, df, dg, rfl, k0, hx0, hx, Dk, Df, Dg, nff, nfg, hQ⟩ := h
    refine ⟨_, (pss_cons (ps_expr (pe_c C_check_kinds hr (passes_call (takes_of rfl rfl rfl rfl) (fun _ _ _ _ h => h)) (pa_cons (pv 1) pa_nil)))
      (pss_cons (ps_expr (pe_c C_check_fields hr (passes_call (takes_of rfl rfl rfl rfl) (fun _ _ _ _ h => h)) (pa_cons (pv 2) (pa_cons (pv 1) pa_nil))))
      (pss_cons (ps_fld (pv 0) (pe_callB cr_srtS (by rfl) B.sorted (by decide +kernel) (pa_cons (pv 1) pa_nil)) rfl)
      (C8.pss_cut (ps_fld (pv 0) (pe_dc (own := [("name", 6)]) (by rfl) sc_Schema___init__.nd (pi_list (pe_callB (cr_srtD rfl) (by rfl) B.sorted (by decide +kernel) (pa_cons (pe_nd (pv 2)) pa_nil))) (blkOk_by (own := [("name", 6)]) (N := ["self", "kinds", "fields", "flags", "backs", "given", "name", "row", "back"]) (sc := defScope s_Schema___init__) (by decide +kernel)) (fun _ _ _ _ _ => (pg_name (i := 6) sc_Schema___init__.nd rfl (Or.inl rfl))) (fun _ _ _ _ _ => pts_nil) (fun _ _ _ _ _ => (pv 6)) (fun _ _ _ _ _ => (pe_dget (un_of hr) (pv 2) (pv 6) (fun _ _ => rfl)))) rfl)
      (C8.pss_cut (ps_set (i := 4) sc_Schema___init__.nd rfl (Or.inr rfl) (pe_lock (pe_dc (own := [("name", 6), ("row", 7)]) (by rfl) sc_Schema___init__.nd (pi_items (pv 2)) (blkOk_by (own := [("name", 6), ("row", 7)]) (N := ["self", "kinds", "fields", "flags", "backs", "given", "name", "row", "back"]) (sc := defScope s_Schema___init__) (by decide +kernel)) (fun _ _ _ _ _ => (pg_tupK K (n := 2) (by rfl) (pgs_cons (pg_name (i := 6) sc_Schema___init__.nd rfl (Or.inl rfl)) (pgs_cons (pg_name (i := 7) sc_Schema___init__.nd rfl (Or.inl rfl)) pgs_nil)))) (fun _ _ _ _ _ => pts_one (pt_cmpR op_notN (pe_ix (ix_tupK K) (pv 7) pe_int (fun _ _ => rfl)) pe_non (nomark _))) (fun _ _ _ _ _ => (pe_ix (ix_tupK K) (pv 7) pe_int (fun _ _ => rfl))) (fun _ _ _ _ _ => (pv 6)))))
      (C8.pss_cut (ps_fld (pv 0) (pe_dc (own := [("back", 8)]) (by rfl) sc_Schema___init__.nd (pi_list (pe_callB (cr_srtD rfl) (by rfl) B.sorted (by decide +kernel) (pa_cons (pe_nd (pv 4)) pa_nil))) (blkOk_by (own := [("back", 8)]) (N := ["self", "kinds", "fields", "flags", "backs", "given", "name", "row", "back"]) (sc := defScope s_Schema___init__) (by decide +kernel)) (fun _ _ _ _ _ => (pg_name (i := 8) sc_Schema___init__.nd rfl (Or.inl rfl))) (fun _ _ _ _ _ => pts_nil) (fun _ _ _ _ _ => (pv 8)) (fun _ _ _ _ _ => (pe_dget (un_of hr) (pv 4) (pv 8) (fun _ _ => rfl)))) rfl)
      (C8.pss_cut (ps_set (i := 5) sc_Schema___init__.nd rfl (Or.inr rfl) (pe_ifExp (PW.pt (pw_and (pt_val (pe_callB call_isA (by rfl) B.isinstance (by decide +kernel) (pa_cons (pv 3) (pa_cons (pe_bltn (v := .ty "tuple") (by rfl) B.tuple PyProof.Rows.Boot.«tuple» rfl) pa_nil)))) (pw_and1 (pt_cmpR (op_eqT0 (Nat.lt_of_le_of_lt (Nat.le_add_right _ 1) (un_of hr))) (pv 3) (pe_tup pa_nil) (nomark _))))) pe_dnewK (pv 3)))
      (pss_cons (ps_expr (pe_c C_check_flags hr (passes_call (takes_of rfl rfl rfl rfl) (fun _ _ _ _ h => h)) (pa_cons (pv 5) (pa_cons (pv 1) (pa_cons (pe_me0 (pv 0) T.cl M_links hr pass0) pa_nil)))))
      (pss_one (ps_fld (pv 0) (pe_dc (own := [("name", 6)]) (by rfl) sc_Schema___init__.nd (pi_list (pe_callB (cr_srtD rfl) (by rfl) B.sorted (by decide +kernel) (pa_cons (pe_nd (pv 5)) pa_nil))) (blkOk_by (own := [("name", 6)]) (N := ["self", "kinds", "fields", "flags", "backs", "given", "name", "row", "back"]) (sc := defScope s_Schema___init__) (by decide +kernel)) (fun _ _ _ _ _ => (pg_name (i := 6) sc_Schema___init__.nd rfl (Or.inl rfl))) (fun _ _ _ _ _ => pts_nil) (fun _ _ _ _ _ => (pv 6)) (fun _ _ _ _ _ => (pe_dget (un_of hr) (pv 5) (pv 6) (fun _ _ => rfl)))) rfl)))))))))), ?_⟩
    have bad : ∀ v, dueD dk df dg = some v → ∀ H', Same H0 H' → ∀ dd, H0 dd = none → H' dd = some (.xd (verF v)) → E (.ref (verC CK CF CG v)) (some dd) H' := fun v e H' k dd hd hx => by
      rw [e] at hQ
      exact hQ H' dd k hd hx
    refine ⟨_, rfl, vk, dk, rfl, Dk.same k0, ?_⟩
    cases hk : kindsDue dk with
    | some o => exact fun H' dd k hd hz => bad (.kinds o) (by simp [dueD, hk]) H' (k0.trans k) dd (k0.free hd) hz
    | none =>
    intro H1 k1'
    have k1 := k0.trans k1'
    have hx1 := k1' x _ hx
    obtain ⟨es, hes, ees, hnm, hl1, hl6, hnd⟩ := kinds_ok hk
    have esd : seqD dk = es := by unfold seqD; rw [hes]; rfl
    obtain ⟨ak, xs, rfl, hsq, hbig, DA⟩ : ∃ a xs, vk = .ref a ∧ (SqL K H0 a xs ∨ SqT K H0 a xs) ∧ xs.length ≤ big ∧ DpCAll P w K H0 xs es := by
      cases Dk with
      | lst h1 h2 h3 => cases hes; exact ⟨_, _, rfl, .inl h1, h2, h3⟩
      | tup h1 h2 h3 => cases hes; exact ⟨_, _, rfl, .inr h1, h2, h3⟩
      | _ => cases hes
    refine ⟨_, rfl, _, rfl, vf, df, ak, xs, es, rfl, Df.same k1, nff.same Df k1, seqs_same k1 hsq, DA.same k1, ?_⟩
    cases hf : fieldsDue es df with
    | some o => exact fun H' dd k hd hz => bad (.fields o) (by simp only [dueD, hk, esd, hf]) H' (k1.trans k) dd (k1.free hd) hz
    | none =>
    intro H2 k2'
    have k2 := k1.trans k2'
    have hx2 := k2' x _ hx1
    have exs : xs = (strsD es).map V.str := by
      have q : ∀ {xs : List V} {l : List Str}, DpCAll P w K H0 xs (l.map PyData.str) → xs = l.map V.str := by
        intro xs l
        induction l generalizing xs with
        | nil => intro h; cases h; rfl
        | cons z r ih =>
          intro h
          cases h with
          | cons h1 h2 =>
            rw [ih h2]
            cases h1
            rfl
      rw [ees] at DA
      exact q DA
    obtain ⟨ds, rfl, hd12, hdn, hdf, hgo⟩ := fields_ok hf
    obtain ⟨af, rfl⟩ : ∃ af, vf = .ref af := by cases Df; exact ⟨_, rfl⟩
    obtain ⟨kvs, N⟩ := names_at Df hdn
    have hlk : (keysD ds).length ≤ 12 := by rw [N.len]; exact hd12
    have haf : H0 af = some (.dK kvs) := by
      rcases N.rd with h | ⟨o, h⟩
      · exact h
      · exact absurd h (nff af ds rfl rfl _ _)
    have hls : (strsD es).length < 64 := by
      have := congrArg List.length ees
      rw [List.length_map] at this
      omega
    -- own_kinds
    have hsr : ∀ (Q' : VK), (∀ p, H2 p = none → Q' (.ref p) (upd H2 p (.lst ((srt (strsD es)).map V.str)))) → rSrt K [V.ref ak] H2 Q' ∨ rSrtT K [V.ref ak] H2 Q' := by
      intro Q' hq
      rw [exs] at hsq
      rcases hsq with h | h
      · exact .inl ⟨ak, strsD es, rfl, k2.seq h, hls, hq⟩
      · exact .inr ⟨ak, strsD es, rfl, sqT_same k2 h, hls, hq⟩
    refine ⟨_, rfl, hsr _ fun p1 hp1 => ?_⟩
    have hxp1 : x ≠ p1 := ne_of_none hx2 hp1
    refine ⟨_, rfl, x, C, dx, _, rfl, (by rw [upd_ne hxp1]; exact hx2), T.cl, T.nk, (by show 0 < 1000; decide), ?_⟩
    -- own_fields
    refine ⟨fun σ Hc => σ = [some (.ref x), some (.ref ak), some (.ref af), some vg, none, none, none, none, none] ∧ Same H0 Hc ∧ (keysD ds).Nodup ∧ ∃ p1 p2, (H0 p1 = none ∧ H0 p2 = none) ∧ Hc x = some (.ins C dx [("own_kinds", .ref p1), ("own_fields", .ref p2)]) ∧ Hc p1 = some (.lst ((srt (strsD es)).map V.str)) ∧ Hc p2 = some (.dK ((fsV kvs ds).map fun p => (Sum.inr p.1, p.2))), ?_, ?_⟩
    · have k3 : Same H0 (upd (upd H2 p1 (.lst ((srt (strsD es)).map V.str))) x (.ins C dx (putF "own_kinds" (.ref p1) []))) := same_mut (k2.trans (same_new hp1)) hx0
      have hx3 : upd (upd H2 p1 (.lst ((srt (strsD es)).map V.str))) x (.ins C dx (putF "own_kinds" (.ref p1) [])) x = some (.ins C dx [("own_kinds", .ref p1)]) := upd_same
      have hp3 : upd (upd H2 p1 (.lst ((srt (strsD es)).map V.str))) x (.ins C dx (putF "own_kinds" (.ref p1) [])) p1 = some (.lst ((srt (strsD es)).map V.str)) := by rw [upd_ne (Ne.symm hxp1)]; exact upd_same
      revert k3 hx3 hp3
      generalize upd (upd H2 p1 (.lst ((srt (strsD es)).map V.str))) x (.ins C dx (putF "own_kinds" (.ref p1) [])) = H3
      intro k3 hx3 hp3
      refine ⟨_, rfl, fun nd => ⟨af, kvs, keysD ds, rfl, rd_same k3 N.rd, N.keys, by omega, fun q hq => ⟨q, rfl, ⟨_, SqL.of upd_same⟩, fun D hD => ?_⟩⟩⟩
      have ndk : (keysD ds).Nodup := names_kv N (nd af kvs rfl (rd_same k3 N.rd))
      refine dc_flt (walk_strs (l := srt (keysD ds))) (fun Hx k => k.seq (SqL.of upd_same)) hD (by rw [srt_length, sizeLine_eq]; omega) (fun i => ((srt (keysD ds))[i]?).map fun z => (Sum.inr z, (valV kvs (Sum.inr z)).getD .non)) ?_ ?_
      · rintro i y Hx Hy hi kx ⟨rfl, z, hz, rfl⟩ Nx hN
        refine ⟨rfl, tYes_in ?_⟩
        obtain ⟨u, hu, Du⟩ := N.vals z (srt_mem.mp (List.mem_of_getElem? hz))
        have dg : DGet Hy af (.str z) (some u) := by
          have q := dget_rd (z := z) (rd_same ((k3.trans (same_new hq)).trans kx) N.rd)
          rw [hu] at q
          exact q
        refine ⟨_, rfl, _, rfl, _, rfl, af, u, rfl, dg, ?_⟩
        have z' := hN Hy (Same.refl _)
        rw [hz] at z'
        dsimp only [Option.map] at z'
        rw [hu] at z'
        exact z'
      · intro Hx kx hDx
        rw [fm_strs, mergeK_nodup (by
          rw [List.nil_append, List.map_map]
          exact inr_nodup (srt_nodup.mpr ndk))] at hDx
        have k4 := (same_new (o := .lst ((srt (keysD ds)).map V.str)) hq).trans kx
        have hxx := k4 x _ hx3
        refine ⟨_, rfl, x, C, dx, _, rfl, hxx, T.cl, T.nf, (by show 1 < 1000; decide), ?_⟩
        have hDx' : Hx D ≠ none := by rw [hDx]; intro z; cases z
        have hxD : x ≠ D := fun e => by rw [← e, hxx] at hDx; cases hDx
        have hxp : x ≠ p1 := hxp1
        refine ⟨rfl, same_mut (k3.trans k4) hx0, ndk, p1, D, ⟨k2.free hp1, (k3.trans (same_new hq)).free hD⟩, by rw [upd_same]; rfl, by rw [upd_ne (Ne.symm hxp)]; exact k4 _ _ hp3, ?_⟩
        rw [upd_ne (Ne.symm hxD), hDx]
        simp [fsV, Function.comp_def]
    rintro _ H3 ⟨rfl, k3, ndk, p1, p2, ⟨np1, np2⟩, hx3, hp1', hp2'⟩
    have haf3 := k3 af _ haf
    obtain ⟨ndb, nbk⟩ := backs_ok hgo
    have hlb := backs_le ds (keysD ds)
    -- backs
    refine ⟨fun σ Hc => Same H3 Hc ∧ ∃ pb, σ = [some (.ref x), some (.ref ak), some (.ref af), some vg, some (.ref pb), none, none, none, none] ∧ Hc pb = some (.dK ((keysD ds).filterMap (backP ds))), ?_, ?_⟩
    · refine ⟨af, .dK kvs, haf3, trivial, fun od => ⟨_, rfl, af, od, kvs, rfl, upd_same, fun D hD => ?_⟩⟩
      have ekl : kvs.length = (keysD ds).length := by
        have := congrArg List.length N.keys
        simpa using this
      refine dc_flt walk_items (fun Hx k => k af _ upd_same) hD (by rw [ekl, sizeLine_eq]; omega) (fun i => ((keysD ds)[i]?).bind (backP ds)) ?_ ?_
      · rintro i y Hx Hy hi kx ⟨T', k', v', rfl, hT, rfl, hk', hv'⟩ Nx hN
        obtain ⟨kv, hkv⟩ : ∃ kv, kvs[i]? = some kv := ⟨kvs[i], by simp [hi]⟩
        dsimp only at hk' hv'
        rw [hkv] at hk' hv'
        have hk2 : kV kv.1 = k' := Option.some.inj hk'
        have hv2 : kv.2 = v' := Option.some.inj hv'
        subst hk2 hv2
        obtain ⟨z, hz, ez⟩ : ∃ z, (keysD ds)[i]? = some z ∧ kv.1 = Sum.inr z := by
          have q := congrArg (fun l => (l[i]?)) N.keys
          simp only [List.getElem?_map] at q
          rw [hkv] at q
          cases e4 : (keysD ds)[i]? with
          | none => rw [e4] at q; cases q
          | some z => rw [e4] at q; exact ⟨z, rfl, Option.some.inj q⟩
        have hmem : z ∈ keysD ds := List.mem_of_getElem? hz
        obtain ⟨u, hu, Du⟩ := N.vals z hmem
        have euv : kv.2 = u := by
          have q := valV_get ndk N.keys hkv ez
          rw [hu] at q
          exact (Option.some.inj q).symm
        obtain ⟨d0, d1, d2, d3, ed, _, _, hb2, _⟩ := field_four (hdf z hmem)
        rw [ed] at Du
        obtain ⟨t, y0, y1, y2, y3, eu, hsq4, D2⟩ : ∃ t y0 y1 y2 y3, u = .ref t ∧ SqT K H0 t [y0, y1, y2, y3] ∧ DpC P w K H0 y2 d2 := by
          cases Du with
          | tup h1 h2 h3 =>
            obtain ⟨y0, y1, y2, y3, rfl⟩ := four h3.length
            exact ⟨_, _, _, _, _, rfl, h1, (all4 h3).2.2.1⟩
        have eb : backD (valD ds z) = d2 := by rw [ed]; rfl
        have kT : Same Hx (upd Hx T' (.tup [kV kv.1, kv.2])) := same_new hT
        have hst : SqT K (upd Hx T' (.tup [kV kv.1, kv.2])) t [y0, y1, y2, y3] := sqT_same kT (sqT_same kx (sqT_lock (sqT_same k3 hsq4) haf3 (fun _ z => nomatch z) (fun _ _ z => nomatch z)))
        rw [ez, euv, eu] at *
        refine ⟨T', _, rfl, SqT.of upd_same, rfl, _, _, rfl, _, _, rfl, rfl, rfl, ?_⟩
        have z' := hN _ kT
        rw [hz] at z'
        refine ⟨_, rfl, t, _, _, y2, rfl, rfl, hst, rfl, rfl, _, rfl, ?_⟩
        rcases hb2 with rfl | hnm2
        · have hy : y2 = .non := by cases D2; rfl
          subst hy
          refine iteF ?_
          have e1 : backP ds z = none := by unfold backP; rw [eb]; rfl
          dsimp only [Option.bind] at z'
          rw [e1] at z'
          exact z'
        · obtain ⟨b, rfl, _, _⟩ := isName_str hnm2
          have hy : y2 = .str b := by cases D2; rfl
          subst hy
          refine iteT ?_
          have e1 : backP ds z = some (Sum.inr b, .str z) := by unfold backP; rw [eb]; rfl
          dsimp only [Option.bind] at z'
          rw [e1] at z'
          exact ⟨_, rfl, t, _, _, _, rfl, rfl, hst, rfl, _, rfl, z'⟩
      · intro Hx kx hDx
        have e1 : (List.range kvs.length).filterMap (fun i => ((keysD ds)[i]?).bind (backP ds)) = (keysD ds).filterMap (backP ds) := by
          rw [ekl]
          exact fm_all (fun i x hx => by rw [hx]; rfl)
        rw [e1, mergeK_nodup (by rw [List.nil_append, backP_keys]; exact inr_nodup ndb), List.nil_append] at hDx
        have hne : D ≠ af := fun e => by rw [e, upd_same] at hD; cases hD
        refine ⟨kx af _ upd_same, same_unlock haf3 kx, D, rfl, ?_⟩
        rw [upd_ne hne]
        exact hDx
    rintro _ H4 ⟨k4', pb, rfl, hpb⟩
    have k4 := k3.trans k4'
    -- own_lists
    refine ⟨fun σ Hc => Same H0 Hc ∧ σ = [some (.ref x), some (.ref ak), some (.ref af), some vg, some (.ref pb), none, none, none, none] ∧ ∃ p3, H0 p3 = none ∧ Hc x = some (.ins C dx [("own_kinds", .ref p1), ("own_fields", .ref p2), ("own_lists", .ref p3)]) ∧ Hc p1 = some (.lst ((srt (strsD es)).map V.str)) ∧ Hc p2 = some (.dK ((fsV kvs ds).map fun p => (Sum.inr p.1, p.2))) ∧ Hc p3 = some (.dK ((lsD ds).map fun p => (Sum.inr p.1, V.str p.2))), ?_, ?_⟩
    · refine ⟨_, rfl, fun nd => ⟨pb, _, backs ds (keysD ds), rfl, .inl hpb, backP_keys ds _, by omega, fun q hq => ⟨q, rfl, ⟨_, SqL.of upd_same⟩, fun D hD => ?_⟩⟩⟩
      refine dc_flt (walk_strs (l := srt (backs ds (keysD ds)))) (fun Hx k => k.seq (SqL.of upd_same)) hD (by rw [srt_length, sizeLine_eq]; omega) (fun i => ((srt (backs ds (keysD ds)))[i]?).map fun b => (Sum.inr b, V.str (ownerD ds b (keysD ds)))) ?_ ?_
      · rintro i y Hx Hy hi kx ⟨rfl, b, hb, rfl⟩ Nx hN
        refine ⟨rfl, tYes_in ?_⟩
        have hbm : b ∈ backs ds (keysD ds) := srt_mem.mp (List.mem_of_getElem? hb)
        have dg : DGet Hy pb (.str b) (some (.str (ownerD ds b (keysD ds)))) := by
          have q := dget_rd (z := b) (rd_same ((same_new hq).trans kx) (.inl hpb))
          rw [backP_val ds b _ hbm] at q
          exact q
        refine ⟨_, rfl, _, rfl, _, rfl, pb, _, rfl, dg, ?_⟩
        have z' := hN Hy (Same.refl _)
        rw [hb] at z'
        exact z'
      · intro Hx kx hDx
        rw [fm_strs, mergeK_nodup (by
          rw [List.nil_append, List.map_map]
          exact inr_nodup (srt_nodup.mpr ndb))] at hDx
        have k5 := (same_new (o := .lst ((srt (backs ds (keysD ds))).map V.str)) hq).trans kx
        have k6 := k4'.trans k5
        have hxx := k6 x _ hx3
        have hxD : x ≠ D := fun e => by rw [← e, hxx] at hDx; cases hDx
        have ne1 : p1 ≠ x := fun e => by rw [e, hx3] at hp1'; cases hp1'
        have ne2 : p2 ≠ x := fun e => by rw [e, hx3] at hp2'; cases hp2'
        refine ⟨_, rfl, x, C, dx, _, rfl, hxx, T.cl, T.nl, (by show 2 < 1000; decide), ?_⟩
        refine ⟨same_mut (k3.trans k6) hx0, rfl, D, (k4.trans (same_new hq)).free hD, by rw [upd_same]; rfl, by rw [upd_ne ne1]; exact k6 _ _ hp1', by rw [upd_ne ne2]; exact k6 _ _ hp2', ?_⟩
        rw [upd_ne (Ne.symm hxD), hDx]
        simp [lsD, Function.comp_def]
    rintro _ H5 ⟨k5, rfl, p3, np3, hx5, hp15, hp25, hp35⟩
    -- given
    refine ⟨fun σ Hc => Same H5 Hc ∧ ∃ v' d', σ = [some (.ref x), some (.ref ak), some (.ref af), some vg, some (.ref pb), some v', none, none, none] ∧ DpC P w K Hc v' d' ∧ NF Hc v' d' ∧ flagsDue2 es (linksD ds) dg = flagsDue es (linksD ds) d' ∧ gsD d' = gsD dg, ?_, ?_⟩
    · refine ⟨_, rfl, _, _, _, dg, _, rfl, .ty _, (Dg.same k5).x, kit_d (by simp) dg, _, rfl, ?_⟩
      cases ht : isT "tuple" dg with
      | false =>
        refine iteF (iteF ⟨_, rfl, Same.refl _, vg, dg, rfl, Dg.same k5, nfg.same Dg k5, ?_, rfl⟩)
        unfold flagsDue2
        split
        · cases ht
        · rfl
      | true =>
        refine iteT ?_
        obtain ⟨at', ys, us, rfl, rfl, hsqt, hln, DAt⟩ : ∃ at' ys us, vg = .ref at' ∧ dg = .tuple us ∧ SqT K H0 at' ys ∧ ys.length ≤ big ∧ DpCAll P w K H0 ys us := by
          cases Dg with
          | tup h1 h2 h3 => exact ⟨_, _, _, rfl, rfl, h1, h2, h3⟩
          | _ => cases ht
        refine ⟨_, rfl, (by show 0 ≤ sizeLine; decide), fun te hte => ?_⟩
        have k6 : Same H5 (upd H5 te (.tup [])) := same_new hte
        refine ⟨at', te, ys, rfl, rfl, sqT_same (k5.trans k6) hsqt, SqT.of upd_same, _, rfl, ?_⟩
        cases us with
        | nil =>
          cases DAt
          refine iteT (fun g0 hg0 => ?_)
          refine ⟨k6.trans (same_new hg0), .ref g0, .dict [], rfl, .dct (es := []) (.inl ⟨[], .inl upd_same, rfl⟩) (Nat.zero_le _) (fun p hp => by cases hp) rfl .nil, ?_, (by simp [flagsDue2, flagsDue, namesToD, keysD, srt, goG]), rfl⟩
          intro a' ds' ea _ o u e
          cases ea
          rw [upd_same] at e
          cases e
        | cons u0 us =>
          cases DAt with
          | cons h1 h2 =>
          exact iteF ⟨_, rfl, k6, _, _, rfl, Dg.same (k5.trans k6), nfg.same Dg (k5.trans k6), rfl, rfl⟩
    rintro _ H6 ⟨k6', vg', dg', rfl, Dg', nfg', efl, egs⟩
    have k6 := k5.trans k6'
    have hx6 := k6' x _ hx5
    -- check_flags
    have ek2 : ((fsV kvs ds).map fun p => ((Sum.inr p.1 : Key), p.2)).map (·.1) = (srt (keysD ds)).map Sum.inr := by simp [fsV, Function.comp_def]
    have ek3 : ((lsD ds).map fun p => ((Sum.inr p.1 : Key), V.str p.2)).map (·.1) = (srt (backs ds (keysD ds))).map Sum.inr := by simp [lsD, Function.comp_def]
    refine ⟨_, rfl, _, rfl, _, rfl, x, dx, _, rfl, hx6, rfl, x, dx, p2, p3, _, _, _, srt (keysD ds), srt (backs ds (keysD ds)), rfl, hx6, rfl, rfl, .inl (k6' _ _ hp25), .inl (k6' _ _ hp35), ek2, ek3, by rw [srt_length, srt_length]; omega, fun H7 pl k7' hpl0 hpl => ?_⟩
    have k7 := k6.trans k7'
    refine ⟨vg', dg', ak, pl, xs, es, _, rfl, Dg'.same k7', nfg'.same Dg' k7', seqs_same k7 hsq, DA.same k7, SqL.of hpl, ?_⟩
    have efc : flagsDue es (srt (srt (keysD ds) ++ srt (backs ds (keysD ds)))) dg' = flagsDue2 es (linksD ds) dg := by
      rw [efl]
      refine flagsDue_congr (fun z => ?_) dg'
      rw [srt_mem]
      unfold linksD
      simp only [List.mem_append, srt_mem]
    rw [efc]
    cases hg : flagsDue2 es (linksD ds) dg with
    | some o => exact fun H' dd k hd hz => bad (.flags o) (by simp only [dueD, hk, esd, hf, dictD, hg]; rfl) H' (k7.trans k) dd (k7.free hd) hz
    | none =>
    intro H8 k8'
    have k8 := k7.trans k8'
    rw [hg] at efl
    obtain ⟨gs, rfl, hg12, hgn, hgk⟩ := flags_ok efl.symm
    obtain ⟨ag, rfl⟩ : ∃ ag, vg' = .ref ag := by cases Dg'; exact ⟨_, rfl⟩
    obtain ⟨kgs, M⟩ := names_at Dg' hgn
    have M8 := M.same (k7'.trans k8')
    have hlg : (keysD gs).length ≤ 12 := by rw [M.len]; exact hg12
    -- own_flags
    refine ⟨_, rfl, fun nd => ⟨ag, kgs, keysD gs, rfl, M8.rd, M8.keys, by omega, fun q hq => ⟨q, rfl, ⟨_, SqL.of upd_same⟩, fun D hD => ?_⟩⟩⟩
    have ndg : (keysD gs).Nodup := names_kv M8 (nd ag kgs rfl M8.rd)
    refine dc_flt (walk_strs (l := srt (keysD gs))) (fun Hx k => k.seq (SqL.of upd_same)) hD (by rw [srt_length, sizeLine_eq]; omega) (fun i => ((srt (keysD gs))[i]?).map fun z => (Sum.inr z, V.str (strD (valD gs z)))) ?_ ?_
    · rintro i y Hx Hy hi kx ⟨rfl, z, hz, rfl⟩ Nx hN
      refine ⟨rfl, tYes_in ?_⟩
      have hzm : z ∈ keysD gs := srt_mem.mp (List.mem_of_getElem? hz)
      obtain ⟨u, hu, Du⟩ := M8.vals z hzm
      obtain ⟨y, ey, _⟩ := kind_str (hgk z hzm).2
      have eu : u = .str (strD (valD gs z)) := by
        rw [ey] at Du ⊢
        cases Du
        rfl
      have dg : DGet Hy ag (.str z) (some u) := by
        have q := dget_rd (z := z) (rd_same ((same_new hq).trans kx) M8.rd)
        rw [hu] at q
        exact q
      refine ⟨_, rfl, _, rfl, _, rfl, ag, u, rfl, dg, ?_⟩
      have z' := hN Hy (Same.refl _)
      rw [hz] at z'
      rw [eu]
      exact z'
    · intro Hx kx hDx
      rw [fm_strs, mergeK_nodup (by
        rw [List.nil_append, List.map_map]
        exact inr_nodup (srt_nodup.mpr ndg))] at hDx
      have k9 := (same_new (o := .lst ((srt (keysD gs)).map V.str)) hq).trans kx
      have k10 : Same H5 Hx := ((k6'.trans k7').trans k8').trans k9
      have hxx := k10 x _ hx5
      have hxD : x ≠ D := fun e => by rw [← e, hxx] at hDx; cases hDx
      have ne1 : p1 ≠ x := fun e => by rw [e, hx5] at hp15; cases hp15
      have ne2 : p2 ≠ x := fun e => by rw [e, hx5] at hp25; cases hp25
      have ne3 : p3 ≠ x := fun e => by rw [e, hx5] at hp35; cases hp35
      refine ⟨_, rfl, x, C, dx, _, rfl, hxx, T.cl, T.ng, (by show 3 < 1000; decide), ?_⟩
      have hdue : dueD dk (.dict ds) dg = none := by simp only [dueD, hk, esd, hf, dictD, hg]; rfl
      rw [hdue] at hQ
      refine hQ _ af ds kvs rfl rfl N (same_mut (k5.trans k10) hx0) ⟨dx, p1, p2, p3, D, ⟨np1, np2, np3, (k8.trans (same_new hq)).free hD⟩, by rw [upd_same]; rfl, ?_, by rw [upd_ne ne2]; exact k10 _ _ hp25, by rw [upd_ne ne3]; exact k10 _ _ hp35, ?_⟩
      · rw [upd_ne ne1, esd]
        exact k10 _ _ hp15
      · rw [upd_ne (Ne.symm hxD), hDx, ← egs]
        simp [gsD, dictD, Function.comp_def]
end

end K17
end
section
set_option Elab.async false
set_option linter.all false
set_option maxRecDepth 100000
set_option maxHeartbeats 4000000
namespace K17
open PySem PySem.Spec PyProof.Rows L2 PySem.EK

abbrev s__law_due : Stmt := top 33
abbrev s__law_told : Stmt := top 34
def verT : Ver → Str
  | .kinds _ => "kinds"
  | .fields _ => "fields"
  | .flags _ => "flags"
def verV : Ver → V
  | .kinds o => posV o
  | .fields o => nameV o
  | .flags o => nameV o
def verL : Option Ver → List V
  | none => [.str "made"]
  | some v => [.str (verT v), verV v, .bl true]
def Three (P : Program) (w : World) (K : PySem.W.Frag) (H : Hp) (vk vf vg : V) (dk df dg : PyData) : Prop := DpC P w K H vk dk ∧ DpC P w K H vf df ∧ DpC P w K H vg dg ∧ NF H vk dk ∧ NF H vf df ∧ NF H vg dg
theorem Three.same {P : Program} {w : World} {K : PySem.W.Frag} {H H' : Hp} {vk vf vg : V} {dk df dg : PyData} (k : Same H H') (h : Three P w K H vk vf vg dk df dg) : Three P w K H' vk vf vg dk df dg :=
  ⟨h.1.same k, h.2.1.same k, h.2.2.1.same k, h.2.2.2.1.same h.1 k, h.2.2.2.2.1.same h.2.1 k, h.2.2.2.2.2.same h.2.2.1 k⟩
def spDue (P : Program) (w : World) (K : PySem.W.Frag) : Sp := fun vs H Q _ => ∃ (vk vf vg : V) (dk df dg : PyData), vs = [vk, vf, vg] ∧ Three P w K H vk vf vg dk df dg ∧ ∀ H' l, Same H H' → H l = none → H' l = some (.lst (verL (dueD dk df dg))) → Q (.ref l) H'
def spTold (P : Program) (w : World) (K : PySem.W.Frag) : Sp := fun vs H Q _ => ∃ (vk vf vg : V) (dk df dg : PyData) (b : Bool), vs = [vk, vf, vg, .bl b] ∧ Three P w K H vk vf vg dk df dg ∧ ∀ H' l, Same H H' → H l = none → H' l = some (.lst (verL (dueD dk df dg))) → Q (.ref l) H'
/-- what the law asks of the error classes -/
structure ErrsX (K : PySem.W.Frag) (mg : Str → Option Value) (CK CF CG FE : Addr) : Prop where
  fk : PySem.W.findIn K (.ref CK) "position" = some none
  ff : PySem.W.findIn K (.ref CF) "name" = some none
  fg : PySem.W.findIn K (.ref CG) "name" = some none
  xk : XfC K CK
  xf : XfC K CF
  xg : XfC K CG
  ek : ExcC K CK
  ef : ExcC K CF
  eg : ExcC K CG
  kk : PySem.W.kitOne K (.ref CK) (.ref FE) = some true
  kf : PySem.W.kitOne K (.ref CF) (.ref FE) = some true
  kg : PySem.W.kitOne K (.ref CG) (.ref FE) = some true
  kk' : PySem.W.exmOne K (.ref CK) (.ref CK) = some true
  fk' : PySem.W.exmOne K (.ref CF) (.ref CK) = some false
  ff' : PySem.W.exmOne K (.ref CF) (.ref CF) = some true
  gk' : PySem.W.exmOne K (.ref CG) (.ref CK) = some false
  gf' : PySem.W.exmOne K (.ref CG) (.ref CF) = some false
  gg' : PySem.W.exmOne K (.ref CG) (.ref CG) = some true
  fe : mg "FetchError" = some (.ref FE)
section
variable {P : Program} {w : World} {K : PySem.W.Frag} {mg : Str → Option Value} {base : Heap} {C CK CF CG FE e0 f : Addr} {fd : FuncData}
theorem sc__law_due : FnScope ["_law_breeds", "_law_heads", "_law_marks", "_law_due_here"] ["_law_breeds", "_law_heads", "_law_marks"] (defScope s__law_due) := ⟨rfl, rfl, rfl, by decide +kernel, rfl, by decide +kernel, by decide +kernel⟩
theorem c__law_due (h : Def K mg "_law_due" s__law_due) (C__law_kinds_due : Cal P w K mg base CX0 2 "_law_kinds_due" ["_law_breeds"] (spKindsDue P w K)) (C__law_fields_due : Cal P w K mg base CX0 3 "_law_fields_due" ["_law_breeds", "_law_heads"] (spFieldsDue P w K)) (C__law_flags_due : Cal P w K mg base CX0 3 "_law_flags_due" ["_law_breeds", "_law_heads", "_law_marks"] (spFlagsDue P w K)) :
    Cal P w K mg base CX0 4 "_law_due" ["_law_breeds", "_law_heads", "_law_marks"] (spDue P w K) := by
  refine cal_of h sc__law_due (fun vs H Q E h => ?_) (fun _ _ _ _ _ _ us hl => match us, hl with | [_, _, _], _ => rfl) (fun f cdv A outer s H vs Q E hr h => ?_)
  · obtain ⟨vk, vf, vg, dk, df, dg, rfl, _⟩ := h
    rfl
  · obtain ⟨vk, vf, vg, dk, df, dg, rfl, T3, hQ⟩ := h
    obtain ⟨Dk, Df, Dg, nk, nff, ng⟩ := id T3
    refine ⟨_, PSs.nox (pss_cons (ps_set (i := 3) sc__law_due.nd rfl (Or.inl rfl) (pe_c C__law_kinds_due hr pass0 (pa_cons (pv 0) pa_nil)))
      (pss_cons (ps_if (pt_cmpR op_isN (pv 3) pe_non (nomark _)) (pss_one (ps_set (i := 3) sc__law_due.nd rfl (Or.inl rfl) (pe_c C__law_fields_due hr pass0 (pa_cons (pv 0) (pa_cons (pv 1) pa_nil))))) pss_nil)
      (pss_cons (ps_if (pt_cmpR op_isN (pv 3) pe_non (nomark _)) (pss_one (ps_set (i := 3) sc__law_due.nd rfl (Or.inl rfl) (pe_c C__law_flags_due hr pass0 (pa_cons (pv 0) (pa_cons (pv 1) (pa_cons (pv 2) pa_nil)))))) pss_nil)
      (pss_one (ps_ret (pe_ifExp (pt_cmpR op_isN (pv 3) pe_non (nomark _)) (pe_lst (pa_cons pe_str pa_nil)) (pe_op op_cat (pv 3) (pe_lst (pa_cons pe_bl pa_nil))))))))), ?_⟩
    refine ⟨_, rfl, vk, dk, rfl, Dk, ?_⟩
    have two : ∀ (v : Ver) (Hc : Hp) (l : Addr), Same H Hc → H l = none → Hc l = some (.lst [.str (verT v), verV v]) → dueD dk df dg = some v → ∀ q, Hc q = none → ∀ m, upd Hc q (.lst [.bl true]) m = none → Q (.ref m) (upd (upd Hc q (.lst [.bl true])) m (.lst ([.str (verT v), verV v] ++ [.bl true]))) := by
      intro v Hc l k hl hlc e q hq m hm
      rw [e] at hQ
      have k2 := (k.trans (same_new hq)).trans (same_new (o := .lst ([.str (verT v), verV v] ++ [.bl true])) hm)
      exact hQ _ m k2 ((k.trans (same_new hq)).free hm) upd_same
    have fin : ∀ (v : V) (Hc : Hp), Same H Hc → ((v = .non ∧ dueD dk df dg = none) ∨ ∃ ver l, v = .ref l ∧ H l = none ∧ Hc l = some (.lst [.str (verT ver), verV ver]) ∧ dueD dk df dg = some ver) → True := fun _ _ _ _ => trivial
    cases hk : kindsDue dk with
    | some o =>
      intro H1 l k1 hl hl1
      have e : dueD dk df dg = some (.kinds o) := by simp [dueD, hk]
      refine ⟨_, rfl, rfl, _, rfl, iteF ?_⟩
      refine ⟨_, rfl, rfl, _, rfl, iteF ?_⟩
      refine ⟨_, rfl, rfl, _, rfl, iteF ?_⟩
      refine ⟨_, rfl, (by show 1 ≤ sizeLine; decide), fun q hq => ⟨l, q, _, _, rfl, rfl, same_new hq _ _ hl1, upd_same, by rw [sizeLine_eq]; simp, fun m hm => ?_⟩⟩
      exact two (.kinds o) H1 l k1 hl hl1 e q hq m hm
    | none =>
    intro H1 k1
    obtain ⟨es, hes, ees, hnm, hl1, hl6, hnd⟩ := kinds_ok hk
    have esd : seqD dk = es := by unfold seqD; rw [hes]; rfl
    obtain ⟨ak, xs, rfl, hsq, hbig, DA⟩ : ∃ a xs, vk = .ref a ∧ (SqL K H a xs ∨ SqT K H a xs) ∧ xs.length ≤ big ∧ DpCAll P w K H xs es := by
      cases Dk with
      | lst h1 h2 h3 => cases hes; exact ⟨_, _, rfl, .inl h1, h2, h3⟩
      | tup h1 h2 h3 => cases hes; exact ⟨_, _, rfl, .inr h1, h2, h3⟩
      | _ => cases hes
    refine ⟨_, rfl, rfl, _, rfl, iteT ?_⟩
    refine ⟨_, rfl, _, rfl, vf, df, ak, xs, es, rfl, Df.same k1, nff.same Df k1, seqs_same k1 hsq, DA.same k1, ?_⟩
    cases hf : fieldsDue es df with
    | some o =>
      intro H2 l k2' hl hl2
      have e : dueD dk df dg = some (.fields o) := by simp only [dueD, hk, esd, hf]
      refine ⟨_, rfl, rfl, _, rfl, iteF ?_⟩
      refine ⟨_, rfl, rfl, _, rfl, iteF ?_⟩
      refine ⟨_, rfl, (by show 1 ≤ sizeLine; decide), fun q hq => ⟨l, q, _, _, rfl, rfl, same_new hq _ _ hl2, upd_same, by rw [sizeLine_eq]; simp, fun m hm => ?_⟩⟩
      exact two (.fields o) H2 l (k1.trans k2') (k1.free hl) hl2 e q hq m hm
    | none =>
    intro H2 k2'
    have k2 := k1.trans k2'
    obtain ⟨ds, rfl, hd12, hdn, hdf, hgo⟩ := fields_ok hf
    obtain ⟨af, rfl⟩ : ∃ af, vf = .ref af := by cases Df; exact ⟨_, rfl⟩
    refine ⟨_, rfl, rfl, _, rfl, iteT ?_⟩
    refine ⟨_, rfl, _, rfl, _, rfl, vg, dg, ak, af, ds, xs, es, rfl, Dg.same k2, ng.same Dg k2, Df.same k2, nff.same Df k2 af ds rfl rfl, hf, seqs_same k2 hsq, DA.same k2, ?_⟩
    cases hg : flagsDue2 es (linksD ds) dg with
    | some o =>
      intro H3 l k3' hl hl3
      have e : dueD dk (.dict ds) dg = some (.flags o) := by simp only [dueD, hk, esd, hf, dictD, hg]; rfl
      refine ⟨_, rfl, rfl, _, rfl, iteF ?_⟩
      refine ⟨_, rfl, (by show 1 ≤ sizeLine; decide), fun q hq => ⟨l, q, _, _, rfl, rfl, same_new hq _ _ hl3, upd_same, by rw [sizeLine_eq]; simp, fun m hm => ?_⟩⟩
      exact two (.flags o) H3 l (k2.trans k3') (k2.free hl) hl3 e q hq m hm
    | none =>
      intro H3 k3'
      have e : dueD dk (.dict ds) dg = none := by simp only [dueD, hk, esd, hf, dictD, hg]; rfl
      refine ⟨_, rfl, rfl, _, rfl, iteT ?_⟩
      refine ⟨(by show 1 ≤ sizeLine; decide), fun l hl => ?_⟩
      have k3 := k2.trans k3'
      rw [e] at hQ
      exact hQ _ l (k3.trans (same_new hl)) (k3.free hl) upd_same
/-- Schema(..) made -/
theorem init_call {Hc : Hp} {vk vf vg : V} {dk df dg : PyData} {Q' : Addr → Hp → Prop} {E' : XK} (T3 : Three P w K Hc vk vf vg dk df dg)
    (good : dueD dk df dg = none → ∀ x H' af ds kvs, vf = .ref af → df = .dict ds → NamesAt P w K Hc af ds kvs → Same Hc H' → Hc x = none → SchO C Hc H' x (srt (strsD (seqD dk))) (fsV kvs ds) (lsD ds) (gsD dg) → Q' x H')
    (bad : ∀ v, dueD dk df dg = some v → ∀ H' dd, Same Hc H' → Hc dd = none → H' dd = some (.xd (verF v)) → E' (.ref (verC CK CF CG v)) (some dd) H') (x dx : Addr) (hx : Hc x = none) (hdx : Hc dx = none) (hne : dx ≠ x) :
    spInit P w K C CK CF CG [.ref x, vk, vf, vg] (upd (upd Hc dx (.own x)) x (.ins C dx [])) (fun v H3 => v = .non ∧ Q' x H3) E' := by
  obtain ⟨Dk, Df, Dg, nk, nff, ng⟩ := T3
  refine ⟨Hc, x, dx, vk, vf, vg, dk, df, dg, rfl, same_mut (same_new hdx) hx, hx, upd_same, Dk, Df, Dg, nff, ng, ?_⟩
  cases e : dueD dk df dg with
  | some v => exact fun H' dd k hd hz => bad v e H' dd k hd hz
  | none => exact fun H' af ds kvs h1 h2 h3 h4 h5 => ⟨rfl, good e x H' af ds kvs h1 h2 h3 h4 hx h5⟩
theorem kb3 (F : IDef K C e0 f fd) : KBn K fd ["self", "kinds", "fields", "flags"] 4 [] (fun us _ => us) (fun vs _ => vs) := by
  obtain ⟨its, h⟩ := F.1.kbindsD (ps := ["self", "kinds", "fields", "flags"]) 4 [] (fun us _ _ => us) (by simp) (fun r _ _ => r) (fun T kV doc pm an cdv ct us its ws h1 h2 h3 =>
    match us, h1, its, h2, ws, h3 with | [_, _, _, _], _, [_], _, [], _ => ⟨_, rfl, rfl⟩)
  exact h
theorem kb2 (F : IDef K C e0 f fd) : ∃ its, KBn K fd ["self", "kinds", "fields", "flags"] 3 [] (fun us _ => us ++ its) (fun vs _ => vs ++ [.ref e0]) := by
  obtain ⟨its, h⟩ := F.1.kbindsD (ps := ["self", "kinds", "fields", "flags"]) 3 [] (fun us its _ => us ++ its) (by simp) (fun r1 r2 _ => r1.append r2) (fun T kV doc pm an cdv ct us its ws h1 h2 h3 =>
    match us, h1, its, h2, ws, h3 with | [_, _, _], _, [_], _, [], _ => ⟨_, rfl, rfl⟩)
  exact ⟨its, h⟩
theorem kbK (F : IDef K C e0 f fd) : KBn K fd ["self", "kinds", "fields", "flags"] 1 ["flags", "fields", "kinds"] (fun us ws => us ++ [ws.getD 2 .none, ws.getD 1 .none, ws.getD 0 .none]) (fun vs zs => vs ++ [zs.getD 2 .non, zs.getD 1 .non, zs.getD 0 .non]) := by
  obtain ⟨oc, od, dV, kV, doc, pm, an, cdv, ct, osl, rfl, lk, hcd, hD, hK⟩ := F.1.ex
  rcases hD with ⟨e, _⟩ | ⟨_, T, o, its, m, rfl, lT, oT, rT⟩
  · cases e
  · refine ⟨fun s us ws X l1 l2 => ?_, fun {vs us zs ws} r1 r2 => r1.append ?_⟩
    · match us, l1, ws, l2, its, rT.length with
      | [u], _, [a, b, c], _, [i], _ =>
        refine BindsTo.of_looks fun M => ?_
        first
          | exact looks_items X lT oT (.of_pure rfl)
          | exact .of_pure rfl
    · have h0 : ∀ i, RelV (zs.getD i .non) (ws.getD i .none) := fun i => by
        rw [List.getD_eq_getElem?_getD, List.getD_eq_getElem?_getD]
        cases e : zs[i]? with
        | none =>
          have : ws[i]? = none := by
            rw [List.getElem?_eq_none_iff] at *
            rw [← r2.length]
            exact e
          rw [this]
          rfl
        | some v =>
          obtain ⟨u, hu, ru⟩ := r2.get e
          rw [hu]
          exact ru
      exact .cons (h0 2) (.cons (h0 1) (.cons (h0 0) .nil))
end

end K17
end
section
set_option Elab.async false
set_option linter.all false
set_option maxRecDepth 100000
set_option maxHeartbeats 4000000
namespace K17
open PySem PySem.Spec PyProof.Rows L2 PySem.EK

section
variable {P : Program} {w : World} {K : PySem.W.Frag} {mg : Str → Option Value} {base : Heap} {C CK CF CG FE e0 f : Addr} {fd : FuncData}
theorem sc__law_told : FnScope ["_law_breeds", "_law_heads", "_law_marks", "_law_is_named", "_law_told_here", "_law_made", "e"] ["_law_breeds", "_law_heads", "_law_marks", "_law_is_named"] (defScope s__law_told) := ⟨rfl, rfl, rfl, by decide +kernel, rfl, by decide +kernel, by decide +kernel⟩
theorem c__law_told (h : Def K mg "_law_told" s__law_told) (B : Bl mg) (T : SchT K mg C) (R : Errs P K mg CK CF CG) (Z : ErrsX K mg CK CF CG FE) (IC : C8.InsC K C) (F : IDef K C e0 f fd) (Fok : FnOk P w K mg base (CX P w) 4 f fd ["self", "kinds", "fields", "flags"] (spInit P w K C CK CF CG)) :
    Cal P w K mg base CX0 6 "_law_told" ["_law_breeds", "_law_heads", "_law_marks", "_law_is_named"] (spTold P w K) := by
  refine cal_of h sc__law_told (fun vs H Q E h => ?_) (fun _ _ _ _ _ _ us hl => match us, hl with | [_, _, _, _], _ => rfl) (fun f' cdv A outer s H vs Q E hr h => ?_)
  · obtain ⟨vk, vf, vg, dk, df, dg, b, rfl, _⟩ := h
    rfl
  · obtain ⟨vk, vf, vg, dk, df, dg, b, rfl, T3, hQ⟩ := h
    refine ⟨_, PSs.nox (pss_cons (ps_set (i := 4) sc__law_told.nd rfl (Or.inl rfl) (pe_lst (pa_cons pe_str pa_nil)))
      (pss_cons (ps_try_ways rfl rfl sc__law_told.nd takes0 (fun W pn xe tk _ => (pss_cons (ps_set (i := 5) sc__law_told.nd rfl (Or.inl rfl) (pe_ifExp (pt_val (pv 3)) (pe_makeKS F.2 Fok hr (by rfl) T.g (kbK F) (passAt tk) (pk_cons (pv 2) (pk_cons (pv 1) (pk_cons (pv 0) pk_nil)))) (pe_makeS (n := 3) F.2 Fok hr (by rfl) T.g (kb3 F) (passAt tk) (pa_cons (pv 0) (pa_cons (pv 1) (pa_cons (pv 2) pa_nil))))))
        (pss_one (ps_set (i := 4) sc__law_told.nd rfl (Or.inl rfl) (pe_ifExp (pt_val (pe_callB (C8.call_isC IC) (by rfl) B.isinstance (by decide +kernel) (pa_cons (pv 5) (pa_cons (pe_glob (v := .ref C) (by rfl) T.g rfl) pa_nil)))) (pe_lst (pa_cons pe_str pa_nil)) (pe_lst (pa_cons pe_str pa_nil)))))))
        (WaysOk.cons (q := ⟨.ref CK, 6, _⟩) ⟨rfl, by decide, .inl R.kinds.m⟩ rfl rfl (fun a oe cls d pn hz hf => pss_one (ps_set (i := 4) sc__law_told.nd rfl (Or.inl rfl) (pe_lst (pa_cons pe_str (pa_cons (pe_xf Z.xk Z.fk hz hf (pv 6)) (pa_cons (pe_callB (call_isS hz hf) (by rfl) B.isinstance (by decide +kernel) (pa_cons (pv 6) (pa_cons (pe_glob (v := .ref FE) (by rfl) Z.fe rfl) pa_nil))) pa_nil)))))) (WaysOk.cons (q := ⟨.ref CF, 6, _⟩) ⟨rfl, by decide, .inl R.fields.m⟩ rfl rfl (fun a oe cls d pn hz hf => pss_one (ps_set (i := 4) sc__law_told.nd rfl (Or.inl rfl) (pe_lst (pa_cons pe_str (pa_cons (pe_xf Z.xf Z.ff hz hf (pv 6)) (pa_cons (pe_callB (call_isS hz hf) (by rfl) B.isinstance (by decide +kernel) (pa_cons (pv 6) (pa_cons (pe_glob (v := .ref FE) (by rfl) Z.fe rfl) pa_nil))) pa_nil)))))) (WaysOk.cons (q := ⟨.ref CG, 6, _⟩) ⟨rfl, by decide, .inl R.flags.m⟩ rfl rfl (fun a oe cls d pn hz hf => pss_one (ps_set (i := 4) sc__law_told.nd rfl (Or.inl rfl) (pe_lst (pa_cons pe_str (pa_cons (pe_xf Z.xg Z.fg hz hf (pv 6)) (pa_cons (pe_callB (call_isS hz hf) (by rfl) B.isinstance (by decide +kernel) (pa_cons (pv 6) (pa_cons (pe_glob (v := .ref FE) (by rfl) Z.fe rfl) pa_nil))) pa_nil)))))) .nil))))
      (pss_one (ps_ret (pv 4))))), ?_⟩
    refine ⟨(by show 1 ≤ sizeLine; decide), fun l0 hl0 => ?_⟩
    have k1 : Same H (upd H l0 (.lst [.str "made"])) := same_new hl0
    revert k1
    generalize upd H l0 (.lst [V.str "made"]) = H1
    intro k1
    refine ⟨_, rfl, b, rfl, ?_⟩
    have done : ∀ (v : Option Ver) (H2 : Hp) (l : Addr), dueD dk df dg = v → Same H1 H2 → H2 l = none → Q (.ref l) (upd H2 l (.lst (verL v))) := fun v H2 l e k hl => by
      rw [e] at hQ
      exact hQ _ l ((k1.trans k).trans (same_new hl)) ((k1.trans k).free hl) upd_same
    cases b
    · refine iteF ⟨_, rfl, _, rfl, _, rfl, rfl, rfl, init_call (T3.same k1) ?_ ?_⟩
      · intro hdue x H2 af ds kvs _ _ _ k2 hx0 S
        obtain ⟨dx, p1, p2, p3, p4, _, hx2, _⟩ := S
        exact ⟨_, rfl, x, dx, _, rfl, hx2, _, rfl, iteT ⟨(by show 1 ≤ sizeLine; decide), fun l hl => ⟨_, rfl, done none H2 l hdue k2 hl⟩⟩⟩
      · intro v hdue H2 dd k2 hd hz
        cases v with
        | kinds o => exact ⟨true, Z.kk', fun _ a ha => ⟨_, rfl, rfl, rfl, dd, _, _, rfl, hz, rfl, _, rfl, CK, dd, _, _, true, _, rfl, rfl, rfl, Z.ek, hz, .own _, Z.kk, (by show 3 ≤ sizeLine; decide), fun l hl => ⟨_, rfl, done (some (.kinds o)) H2 l hdue k2 hl⟩⟩, fun q => nomatch q⟩
        | fields o => exact ⟨false, Z.fk', (fun q => nomatch q), fun _ => ⟨true, Z.ff', fun _ a ha => ⟨_, rfl, rfl, rfl, dd, _, _, rfl, hz, rfl, _, rfl, CF, dd, _, _, true, _, rfl, rfl, rfl, Z.ef, hz, .own _, Z.kf, (by show 3 ≤ sizeLine; decide), fun l hl => ⟨_, rfl, done (some (.fields o)) H2 l hdue k2 hl⟩⟩, fun q => nomatch q⟩⟩
        | flags o => exact ⟨false, Z.gk', (fun q => nomatch q), fun _ => ⟨false, Z.gf', (fun q => nomatch q), fun _ => ⟨true, Z.gg', fun _ a ha => ⟨_, rfl, rfl, rfl, dd, _, _, rfl, hz, rfl, _, rfl, CG, dd, _, _, true, _, rfl, rfl, rfl, Z.eg, hz, .own _, Z.kg, (by show 3 ≤ sizeLine; decide), fun l hl => ⟨_, rfl, done (some (.flags o)) H2 l hdue k2 hl⟩⟩, fun q => nomatch q⟩⟩⟩
    · refine iteT ⟨_, rfl, _, rfl, _, rfl, rfl, rfl, init_call (T3.same k1) ?_ ?_⟩
      · intro hdue x H2 af ds kvs _ _ _ k2 hx0 S
        obtain ⟨dx, p1, p2, p3, p4, _, hx2, _⟩ := S
        exact ⟨_, rfl, x, dx, _, rfl, hx2, _, rfl, iteT ⟨(by show 1 ≤ sizeLine; decide), fun l hl => ⟨_, rfl, done none H2 l hdue k2 hl⟩⟩⟩
      · intro v hdue H2 dd k2 hd hz
        cases v with
        | kinds o => exact ⟨true, Z.kk', fun _ a ha => ⟨_, rfl, rfl, rfl, dd, _, _, rfl, hz, rfl, _, rfl, CK, dd, _, _, true, _, rfl, rfl, rfl, Z.ek, hz, .own _, Z.kk, (by show 3 ≤ sizeLine; decide), fun l hl => ⟨_, rfl, done (some (.kinds o)) H2 l hdue k2 hl⟩⟩, fun q => nomatch q⟩
        | fields o => exact ⟨false, Z.fk', (fun q => nomatch q), fun _ => ⟨true, Z.ff', fun _ a ha => ⟨_, rfl, rfl, rfl, dd, _, _, rfl, hz, rfl, _, rfl, CF, dd, _, _, true, _, rfl, rfl, rfl, Z.ef, hz, .own _, Z.kf, (by show 3 ≤ sizeLine; decide), fun l hl => ⟨_, rfl, done (some (.fields o)) H2 l hdue k2 hl⟩⟩, fun q => nomatch q⟩⟩
        | flags o => exact ⟨false, Z.gk', (fun q => nomatch q), fun _ => ⟨false, Z.gf', (fun q => nomatch q), fun _ => ⟨true, Z.gg', fun _ a ha => ⟨_, rfl, rfl, rfl, dd, _, _, rfl, hz, rfl, _, rfl, CG, dd, _, _, true, _, rfl, rfl, rfl, Z.eg, hz, .own _, Z.kg, (by show 3 ≤ sizeLine; decide), fun l hl => ⟨_, rfl, done (some (.flags o)) H2 l hdue k2 hl⟩⟩, fun q => nomatch q⟩⟩⟩
end

end K17
end
section
set_option Elab.async false
set_option linter.all false
set_option maxRecDepth 100000
set_option maxHeartbeats 4000000
/-! EK15: == and != of two instances of a class with its own __eq__ -/
namespace PySem.EK
open PySem PySem.Spec PyProof.Rows PySem.SeqAt
section
variable {M : Model} {prog : Program} {w : World} {A : Around} {E : Value → Shared → Prop} {s : Shared} {K : PySem.W.Frag} {x y C f : Addr} {ox : Obj} {od : Option Obj}
theorem ifBound_objNe {args : List Value} {Q : Option Value → Shared → Prop} (X : K.In s.heap) (I : PySem.W.InstAt s.heap x ox C od) (hs : PySem.W.findIn K (.ref C) "__ne__" = some (some (.builtin "object.__ne__")))
    (h : wpAny M A (call (.builtin "object.__ne__") (.ref x :: args)) (fun v => Q (some v)) E s) : wpAny M A (callSpecialIfBound? (.ref x) "__ne__" args) Q E s := by
  simp only [callSpecialIfBound?, bindSpecialIfBound?]
  refine wpAny_holding (wpAny_bind (wpAny_bind (wpAny_bind (I.type.here ((PySem.W.looks_findIn X hs).here ?_)))))
  refine wpAny_bind (wpAny_askSetting (wpAny_ite ?_))
  have fin : wpAny M A (call (.builtin "object.__ne__") ([.ref x] ++ args) >>= fun v => pure (some v)) Q E s := wpAny_bind (wpAny_mono h (fun v s' h' => wpAny_pure h') fun _ _ h' => h')
  split
  · exact wpAny_bind (wpAny_of_eq (F.cmp_object.ne.bind _) (wpAny_pure (by exact fin)))
  · exact wpAny_tryCatch (wpAny_bind (wpAny_of_eq (F.cmp_object.ne.bind _) (wpAny_pure (by exact fin))))
theorem objNe_own (X : K.In s.heap) (I : PySem.W.InstAt s.heap x ox C od) (hs : PySem.W.findIn K (.ref C) "__eq__" = some (some (.ref f))) (hf : PySem.W.isFn K (.ref f) = true) (hu : A.units < cLine) {Q : Fin → Shared → Prop} {v : Value}
    (hcall : wpAny (model prog w) A (call (.ref f) [.ref x, v]) (fun v s' => ∃ b, v = .bool b ∧ Q (.done (.ret (.bool (!b)))) s') E s) :
    wpAny (model prog w) A (Builtin.«object.__ne__» ⟨[.ref x, v], []⟩) Q E s := by
  unfold Builtin.«object.__ne__»
  repeat (first
    | with_reducible refine wpAny_cRoomFor hu ?_
    | (refine wpAny_bind (m := callSpecialIfBound? (.ref x) (Str.ofString "__eq__") [v])
        (PySem.W.ifBound_K X I hs hf (wpAny_mono hcall (fun r s' hr => by
          obtain ⟨b, rfl, hq⟩ := hr
          repeat (first | exact hq | exact wpAny_pure hq | exact wpAny_truthy_bool hq | (refine wpAny_bind (m := truthy (.bool _)) (wpAny_truthy_bool ?_)) | wp_step)) fun _ _ e => e)))
    | wp_step)
theorem rc_ne_own {ty : Value} {v : Value} (hu : A.units + 1 < cLine) (X : K.In s.heap) (I : PySem.W.InstAt s.heap x ox C od) (hb : PySem.W.Looks (model prog w) s.heap (typeOf v) ty) (hn : PySem.W.notFirst K C ty = true) (hm : PySem.W.mroIn K C (.type "object") = some true)
    (hs : PySem.W.findIn K (.ref C) "__eq__" = some (some (.ref f))) (hf : PySem.W.isFn K (.ref f) = true) (hne : PySem.W.findIn K (.ref C) "__ne__" = some (some (.builtin "object.__ne__"))) {Q : Value → Shared → Prop}
    (hcall : wpAny (model prog w) A.in1 (call (.ref f) [.ref x, v]) (fun v s' => ∃ b, v = .bool b ∧ Q (.bool (!b)) s') E s) : wpAny (model prog w) A (richCompare .NotEq (.ref x) v) Q E s := by
  have one : wpAny (model prog w) A (tryCompare (.ref x) (cmpInfo .NotEq).2.1 v) (fun r s' => ∃ u, r = some u ∧ Q u s') E s := by
    show wpAny (model prog w) A (tryCompare (.ref x) "__ne__" v) _ E s
    unfold tryCompare
    refine wpAny_bind (ifBound_objNe X I hne (wpAny_call (codeAny_call_builtin F.cmp_object.ne.plain F.cmpEntry_ne (PySem.W.check_slot F.cmpKind_ne F.cmpSplit_ne (I.type.andThen (PySem.W.looks_mroIn X hm)) (F.cmpArgs_ne _ _)
      (objNe_own (A := A.in1) X I hs hf hu (wpAny_mono hcall (fun r s' hr => ?_) fun _ _ e => e))))))
    obtain ⟨b, rfl, hq⟩ := hr
    refine ⟨b, rfl, ?_⟩
    first
      | exact wpAny_pure ⟨_, rfl, hq⟩
      | exact ⟨_, rfl, hq⟩
  unfold richCompare
  simp only [oneThing_ref]
  refine wpAny_holding (wpAny_bind (wpAny_cRoomFor (Nat.lt_of_succ_lt hu) ?_))
  refine wpAny_bind (I.type.here (wpAny_bind (hb.here ?_)))
  split
  · rename_i q
    have e : PySem.W.subIn K ty (.ref C) = some false := by
      rcases Bool.or_eq_true_iff.mp hn with e | e
      · rw [beq_iff_eq.mp e] at q; simp at q
      · exact beq_iff_eq.mp e
    refine wpAny_bind ((PySem.W.looks_subIn X e).here ?_)
    simp only [Bool.false_eq_true, if_false]
    refine wpAny_bind (wpAny_mono one (fun r s' z => ?_) fun _ _ e => e)
    obtain ⟨v, rfl, hq⟩ := z
    exact wpAny_pure hq
  · refine wpAny_bind (wpAny_pure ?_)
    simp only [Bool.false_eq_true, if_false]
    refine wpAny_bind (wpAny_mono one (fun r s' z => ?_) fun _ _ e => e)
    obtain ⟨v, rfl, hq⟩ := z
    exact wpAny_pure hq
end
end PySem.EK
namespace L2
open PySem PySem.Spec PyProof.Rows PySem.EK
/-- the class has its own __eq__, and the plain __ne__ -/
structure OwnEq (K : PySem.W.Frag) (C f : Addr) : Prop where
  eq : PySem.W.findIn K (.ref C) "__eq__" = some (some (.ref f))
  fn : PySem.W.isFn K (.ref f) = true
  ne : PySem.W.findIn K (.ref C) "__ne__" = some (some (.builtin "object.__ne__"))
  mo : PySem.W.mroIn K C (.type "object") = some true
section
variable {X : Cx} {n : Nat} {CX : CXT} {C f : Addr} {fd : FuncData} {ps : List Str} {sp : Sp} {E : XK}
theorem run_eq {A : Around} {pins : List (Addr × Obj)} {s : Shared} {σ : L2.St} {H : Hp} {vs : List V} {us : List Value} {Q : VK} (F : FnOk X.prog X.w X.K X.mg X.base CX n f fd ps sp) (hb : Binds X.K fd ps []) (hx : Passes CX X E) (hr : Room n A) (hf : A.frames = X.A.frames) (I : Inv X pins σ H s) (r : Vals vs us) (h : sp vs H Q E) :
    wpAny (model X.prog X.w) A (call (.ref f) us) (EP X pins σ Q) X.xe s := by
  have e0 : Env0 X.prog X.w X.K X.mg X.base A X.stack s H := by
    have e := I.env0
    exact ⟨by rw [hf]; exact e.frames, e.mod, e.bs, e.bsz, e.funs, e.frf, e.hok, e.bare⟩
  have hl : us.length = ps.length := by rw [← r.length]; exact F.len _ _ _ _ h
  refine wpAny_call (codeAny_mono (F.run A X.stack s H ⟨us, []⟩ us vs Q E hr e0 (by
    have := hb s us I.kIn (by simpa using hl)
    simpa using this) r h) fun r s' hq => ?_)
  cases r with
  | error e => exact hx pins σ H s e s' I hq
  | ok fl =>
    cases fl with
    | ret w => exact I.after hq
    | next => exact False.elim hq
    | brk => exact False.elim hq
    | cont => exact False.elim hq
def rCmpI (C : Addr) (sp : Sp) (E : XK) (neg : Bool) : R2 := fun x y H Q => ∃ a b dx dy fs gs, x = .ref a ∧ y = .ref b ∧ H a = some (.ins C dx fs) ∧ H b = some (.ins C dy gs) ∧ sp [.ref a, .ref b] H (fun v H' => ∃ r, v = .bl r ∧ Q (.bl (if neg then !r else r)) H') E
theorem op_eqI {j : Nat} (F : FnOk X.prog X.w X.K X.mg X.base CX n f fd ps sp) (O : OwnEq X.K C f) (hb : Binds X.K fd ps []) (hx : Passes CX X E) (hr : Room j X.A) (hj : n ≤ j := by decide) : OpR X (compareOp .Eq) (rCmpI C sp E false) := by
  intro pins s σ H x y u v Q I rx ry d
  obtain ⟨a, b, dx, dy, fs, gs, rfl, rfl, ha, hb', h⟩ := d
  cases rx
  cases ry
  obtain ⟨mA, J, _⟩ := ins_get I.hok ha
  obtain ⟨mB, J', _⟩ := ins_get I.hok hb'
  obtain ⟨od, J, _⟩ := J.look
  obtain ⟨od', J', _⟩ := J'.look
  obtain ⟨m, hF⟩ := I.fr
  refine PySem.W.cmp_K (op := .Eq) (tb := .ref C) hr.units0 hF I.ok.mod.kin J J'.type (by simp [PySem.W.notFirst]) O.eq O.fn ?_
  refine wpAny_mono (run_eq F hb hx (hr.mono hj) rfl I (show Vals [V.ref a, V.ref b] [Value.ref a, Value.ref b] from .cons rfl (.cons rfl .nil)) h) (fun v s' z => ?_) fun _ _ e => e
  obtain ⟨z, H', I', rz, r, rfl, q⟩ := z
  cases rz
  exact ⟨.bl r, H', I', rfl, q⟩
theorem op_neI {j : Nat} (F : FnOk X.prog X.w X.K X.mg X.base CX n f fd ps sp) (O : OwnEq X.K C f) (hb : Binds X.K fd ps []) (hx : Passes CX X E) (hr : Room j X.A) (hj : n + 1 ≤ j := by decide) : OpR X (compareOp .NotEq) (rCmpI C sp E true) := by
  intro pins s σ H x y u v Q I rx ry d
  obtain ⟨a, b, dx, dy, fs, gs, rfl, rfl, ha, hb', h⟩ := d
  cases rx
  cases ry
  obtain ⟨mA, J, _⟩ := ins_get I.hok ha
  obtain ⟨mB, J', _⟩ := ins_get I.hok hb'
  obtain ⟨od, J, _⟩ := J.look
  obtain ⟨od', J', _⟩ := J'.look
  have hu : X.A.units + 1 < cLine := un_of hr
  refine rc_ne_own (ty := .ref C) hu I.kIn J J'.type (by simp [PySem.W.notFirst]) O.mo O.eq O.fn O.ne ?_
  refine wpAny_mono (run_eq (A := X.A.in1) F hb hx (hr.mono hj).in1 rfl I (show Vals [V.ref a, V.ref b] [Value.ref a, Value.ref b] from .cons rfl (.cons rfl .nil)) h) (fun v s' z => ?_) fun _ _ e => e
  obtain ⟨z, H', I', rz, r, rfl, q⟩ := z
  cases rz
  exact ⟨r, rfl, .bl (!r), H', I', rfl, q⟩
end
end L2
end
section
set_option Elab.async false
set_option linter.all false
set_option maxRecDepth 100000
set_option maxHeartbeats 4000000
namespace K17
open PySem PySem.Spec PyProof.Rows L2 PySem.EK

abbrev s_Schema_flags : Stmt := inClass (top 20) 3
abbrev s_Schema___eq__ : Stmt := inClass (top 20) 16
abbrev s__law_schema : Stmt := top 27
abbrev s__law_changed_right : Stmt := top 39
theorem ext_same {H H' : Hp} (e : Ext H H') : Same H H' := e
def spFlagsM (C : Addr) : Sp := fun vs H Q _ => ∃ (H0 : Hp) (x : Addr) (ks : List Str) (fs : List (Str × V)) (ls gs : List (Str × Str)), vs = [.ref x] ∧ SchO C H0 H x ks fs ls gs ∧ ∀ H' p, Same H H' → H p = none → H' p = some (.dK (gs.map fun p => (Sum.inr p.1, V.str p.2))) → Q (.ref p) H'
def spEqS (C : Addr) : Sp := fun vs H Q _ => ∃ (H0 H1 : Hp) (a b : Addr) (ks : List Str) (fs : List (Str × V)) (ls ls' gs : List (Str × Str)), vs = [.ref a, .ref b] ∧ SchO C H0 H a ks fs ls gs ∧ SchO C H1 H b ks fs ls' gs ∧ (∀ p ∈ fs, flatB p.2 = true ∨ ∃ r, p.2 = .ref r) ∧ ∀ H', Same H H' → Q (.bl true) H'
theorem eqV_mon {K : PySem.W.Frag} {H H' : Hp} (e : Same H H') : ∀ (n : Nat) (x y : V), EqV K H n x y → EqV K H' n x y
  | 0, _, _, h => h.elim
  | n + 1, x, y, h => by
    rcases h with h | h | h
    · exact .inl h
    · exact .inr (.inl h)
    · refine .inr (.inr ?_)
      rcases h with ⟨a, b, xs, ys, h1, h2, h3, h4, h5⟩ | ⟨a, b, ks, ls, h1, h2, h3, h4, h5, h6⟩
      · exact .inl ⟨a, b, xs, ys, h1, h2, Same.seq e h3, Same.seq e h4, by
          clear h3 h4
          induction h5 with
          | nil => exact .nil
          | cons q _ ih => exact .cons (eqV_mon e n _ _ q) ih⟩
      · exact .inr ⟨a, b, ks, ls, h1, h2, e _ _ h3, e _ _ h4, h5, fun p hp => by
          obtain ⟨u, q1, q2⟩ := h6 p hp
          exact ⟨u, q1, eqV_mon e n _ _ q2⟩⟩
theorem eqG_V {X : Cx} {n : Nat} (hn : n ≤ 60) : EqG X 0 (fun x y H => EqV X.K H n x y) := by
  intro A pins s σ H x y u v sb I rx ry d
  have hu : A.units + n < cLine := un_of sb.room (by omega)
  exact eqV_run I n A hu x y u v d rx ry X.xe _ ⟨rfl, H, I, Ext.rfl'⟩
theorem valV_mem : ∀ {kvs : List (Key × V)} {p : Key × V}, (kvs.map (·.1)).Nodup → p ∈ kvs → valV kvs p.1 = some p.2
  | [], _, _, h => by cases h
  | q :: r, p, nd, h => by
    rw [List.map_cons, List.nodup_cons] at nd
    rcases List.mem_cons.mp h with rfl | h
    · unfold valV
      rw [List.find?_cons]
      simp
    · have hne : ¬ q.1 = p.1 := fun e => nd.1 (by rw [e]; exact List.mem_map.mpr ⟨p, h, rfl⟩)
      rw [← valV_mem nd.2 h]
      unfold valV
      rw [List.find?_cons]
      simp [hne]
theorem eqV_refl_lst {K : PySem.W.Frag} {H : Hp} {E : V → V → Prop} {l : List Str} (h : ∀ z : Str, E (.str z) (.str z)) : Paired E (l.map V.str) (l.map V.str) := by
  induction l with
  | nil => exact .nil
  | cons z r ih => exact .cons (h z) ih
section
variable {P : Program} {w : World} {K : PySem.W.Frag} {mg : Str → Option Value} {base : Heap} {C CK CF CG FE e0 f : Addr} {fd : FuncData}
theorem sc_Schema_flags : FnScope ["self"] ["self"] (defScope s_Schema_flags) := ⟨rfl, rfl, rfl, by decide +kernel, rfl, by decide +kernel, by decide +kernel⟩
theorem c_flags (h : MDef K C "flags" "Schema.flags" s_Schema_flags) (B : Bl mg) (T : SchT K mg C) : MCal P w K mg base CX0 1 C "flags" ["self"] (spFlagsM C) := by
  refine mcal_of h sc_Schema_flags (fun vs H Q E h => ?_) (fun _ _ _ _ _ _ us hl => match us, hl with | [_], _ => rfl) (fun f cdv A outer s H vs Q E hr h => ?_)
  · obtain ⟨H0, x, ks, fs, ls, gs, rfl, _⟩ := h
    rfl
  · obtain ⟨H0, x, ks, fs, ls, gs, rfl, S, hQ⟩ := h
    obtain ⟨dx, p1, p2, p3, p4, _, hx, h1, h2, h3, h4⟩ := S
    refine ⟨_, PSs.nox (pss_one (ps_ret (pe_callTy call_dictD (by rfl) B.dict (by decide +kernel) (pa_cons (pe_fld (pv 0) rfl) pa_nil)))), ?_⟩
    refine ⟨_, rfl, x, C, dx, _, _, rfl, hx, T.cl, T.ng, rfl, p4, _, rfl, .inl h4, fun p hp => ?_⟩
    exact hQ _ p (same_new hp) hp upd_same
theorem sc_Schema___eq__ : FnScope ["self", "other", "mine"] ["self", "other"] (defScope s_Schema___eq__) := ⟨rfl, rfl, rfl, by decide +kernel, rfl, by decide +kernel, by decide +kernel⟩
theorem c_eq (h : ∃ f fd, FunD K "__eq__" "Schema.__eq__" (defArgs s_Schema___eq__) (defBody s_Schema___eq__) (defScope s_Schema___eq__) [] [] f fd ∧ OwnEq K C f) (B : Bl mg) (T : SchT K mg C) (IC : C8.InsC K C) :
    ∃ f fd, FnOk P w K mg base CX0 3 f fd ["self", "other"] (spEqS C) ∧ OwnEq K C f ∧ Binds K fd ["self", "other"] [] := by
  obtain ⟨f, fd, F, O⟩ := h
  refine ⟨f, fd, F.ok sc_Schema___eq__ (fun vs H Q E h => ?_) (fun cdv A outer s H vs Q E hr h => ?_), O, F.bindsN (fun _ _ _ _ _ _ us hl => match us, hl with | [_, _], _ => rfl)⟩
  · obtain ⟨H0, H1, a, b, ks, fs, ls, ls', gs, rfl, _⟩ := h
    rfl
  · obtain ⟨H0, H1, a, b, ks, fs, ls, ls', gs, rfl, S1, S2, hfl, hQ⟩ := h
    obtain ⟨dx, p1, p2, p3, p4, _, hx, h1, h2, h3, h4⟩ := S1
    obtain ⟨dy, q1, q2, q3, q4, _, hy, g1, g2, g3, g4⟩ := S2
    refine ⟨_, PSs.nox (pss_cons (ps_if (pt_not (pt_val (pe_callB (C8.call_isC IC) (by rfl) B.isinstance (by decide +kernel) (pa_cons (pv 1) (pa_cons (pe_glob (v := .ref C) (by rfl) T.g rfl) pa_nil))))) (pss_one (ps_ret pe_bl)) pss_nil)
      (pss_cons (ps_set (i := 2) sc_Schema___eq__.nd rfl (Or.inl rfl) (pe_tup (pa_cons (pe_fld (pv 0) rfl) (pa_cons (pe_nd (pe_fld (pv 0) rfl)) (pa_cons (pe_nd (pe_fld (pv 0) rfl)) pa_nil)))))
      (pss_one (ps_ret (pe_cmpR (op_eqG (rcG_tup (D := fun x y H => EqV K H 2 x y) (fun x y H H' e d => eqV_mon e 2 x y d) (eqG_V (by decide))) (hr.mono (by decide))) (pv 2) (pe_tup (pa_cons (pe_fld (pv 1) rfl) (pa_cons (pe_fld (pv 1) rfl) (pa_cons (pe_fld (pv 1) rfl) pa_nil)))) (nomark _)))))), ?_⟩
    refine ⟨_, rfl, b, dy, _, rfl, hy, _, rfl, iteF ?_⟩
    refine ⟨_, rfl, a, C, dx, _, _, rfl, hx, T.cl, T.nk, rfl, ?_⟩
    refine ⟨_, rfl, a, C, dx, _, _, rfl, hx, T.cl, T.nf, rfl, fun nd2 => ?_⟩
    refine ⟨_, rfl, a, C, dx, _, _, rfl, hx, T.cl, T.ng, rfl, fun nd4 => ⟨(by show 3 ≤ sizeLine; decide), fun t1 ht1 => ?_⟩⟩
    have k1 : Same H (upd H t1 (.tup [.ref p1, .ref p2, .ref p4])) := same_new ht1
    refine ⟨_, rfl, _, rfl, b, C, dy, _, _, rfl, k1 _ _ hy, T.cl, T.nk, rfl, ?_⟩
    refine ⟨_, rfl, b, C, dy, _, _, rfl, k1 _ _ hy, T.cl, T.nf, rfl, ?_⟩
    refine ⟨_, rfl, b, C, dy, _, _, rfl, k1 _ _ hy, T.cl, T.ng, rfl, (by show 3 ≤ sizeLine; decide), fun t2 ht2 => ?_⟩
    have k2 : Same H (upd (upd H t1 (.tup [.ref p1, .ref p2, .ref p4])) t2 (.tup [.ref q1, .ref q2, .ref q4])) := k1.trans (same_new ht2)
    have ht12 : t1 ≠ t2 := fun e => by rw [← e, upd_same] at ht2; cases ht2
    have n2 := nd2 p2 _ rfl (.inl h2)
    have n4 := nd4 p4 _ rfl (.inl h4)
    refine ⟨⟨t1, t2, _, _, rfl, rfl, SqT.of (by rw [upd_ne ht12]; exact upd_same), SqT.of upd_same, ?_⟩, fun H' e => hQ H' (k2.trans e)⟩
    have ef : ∀ p ∈ fs, EqV K (upd (upd H t1 (.tup [.ref p1, .ref p2, .ref p4])) t2 (.tup [.ref q1, .ref q2, .ref q4])) 1 p.2 p.2 := fun p hp => by
      rcases hfl p hp with h | ⟨r, h⟩
      · exact .inl ⟨rfl, h⟩
      · exact .inr (.inl ⟨r, h, h⟩)
    refine .cons ?_ (.cons ?_ (.cons ?_ .nil))
    · exact .inr (.inr (.inl ⟨p1, q1, _, _, rfl, rfl, k2.seq (SqL.of h1), k2.seq (SqL.of g1), eqV_refl_lst (K := K) (H := H) fun z => .inl ⟨rfl, rfl⟩⟩))
    · refine .inr (.inr (.inr ⟨p2, q2, _, _, rfl, rfl, k2 _ _ h2, k2 _ _ g2, rfl, fun p hp => ⟨_, valV_mem n2 hp, ?_⟩⟩))
      obtain ⟨q, hq, rfl⟩ := List.mem_map.mp hp
      exact ef q hq
    · refine .inr (.inr (.inr ⟨p4, q4, _, _, rfl, rfl, k2 _ _ h4, k2 _ _ g4, rfl, fun p hp => ⟨_, valV_mem n4 hp, ?_⟩⟩))
      obtain ⟨q, hq, rfl⟩ := List.mem_map.mp hp
      exact .inl ⟨rfl, rfl⟩
end

end K17
end
section
set_option Elab.async false
set_option linter.all false
set_option maxRecDepth 100000
set_option maxHeartbeats 4000000
namespace K17
open PySem PySem.Spec PyProof.Rows L2 PySem.EK

theorem rd_unique {H : Hp} {a : Addr} {k k' : List (Key × V)} (h : Rd H a (.dK k)) (h2 : H a = some (.dK k')) : k = k' := by
  rcases h with h | ⟨o, h⟩
  · rw [h] at h2; cases h2; rfl
  · rw [h] at h2; cases h2
theorem strs_map (ks : List Str) : strsD (ks.map PyData.str) = ks := by
  induction ks with
  | nil => rfl
  | cons z r ih =>
    show z :: strsD (r.map PyData.str) = z :: r
    rw [ih]
/-- a right scheme: a dict of kinds, fields, flags -/
structure Scheme (P : Program) (w : World) (K : PySem.W.Frag) (H : Hp) (sc ak af ag : Addr) (ks : List Str) (kf kg : List (Key × V)) (df dg : List (PyData × PyData)) : Prop where
  sc : H sc = some (.dK [(Sum.inr "kinds", .ref ak), (Sum.inr "fields", .ref af), (Sum.inr "flags", .ref ag)])
  k : H ak = some (.lst (ks.map V.str))
  f : H af = some (.dK kf)
  g : H ag = some (.dK kg)
  T3 : Three P w K H (.ref ak) (.ref af) (.ref ag) (.list (ks.map PyData.str)) (.dict df) (.dict dg)
  due : dueD (.list (ks.map PyData.str)) (.dict df) (.dict dg) = none
theorem Scheme.same {P : Program} {w : World} {K : PySem.W.Frag} {H H' : Hp} {sc ak af ag : Addr} {ks : List Str} {kf kg : List (Key × V)} {df dg : List (PyData × PyData)} (S : Scheme P w K H sc ak af ag ks kf kg df dg) (k : Same H H') : Scheme P w K H' sc ak af ag ks kf kg df dg :=
  ⟨k _ _ S.sc, k _ _ S.k, k _ _ S.f, k _ _ S.g, S.T3.same k, S.due⟩
theorem due_parts {dk df dg : PyData} (h : dueD dk df dg = none) : kindsDue dk = none ∧ fieldsDue (seqD dk) df = none ∧ flagsDue2 (seqD dk) (linksD (dictD df)) dg = none := by
  unfold dueD at h
  cases h1 : kindsDue dk with
  | some o => rw [h1] at h; cases h
  | none =>
    rw [h1] at h
    dsimp only at h
    cases h2 : fieldsDue (seqD dk) df with
    | some o => rw [h2] at h; cases h
    | none =>
      rw [h2] at h
      dsimp only at h
      cases h3 : flagsDue2 (seqD dk) (linksD (dictD df)) dg with
      | some o => rw [h3] at h; cases h
      | none => exact ⟨rfl, rfl, rfl⟩
theorem due_of {dk df dg : PyData} (h1 : kindsDue dk = none) (h2 : fieldsDue (seqD dk) df = none) (h3 : flagsDue2 (seqD dk) (linksD (dictD df)) dg = none) : dueD dk df dg = none := by
  unfold dueD
  rw [h1]
  dsimp only
  rw [h2]
  dsimp only
  rw [h3]
  rfl
theorem due_unit {dk df dg : PyData} (h : dueD dk df dg = none) : dueD dk df (.tuple []) = none := by
  obtain ⟨h1, h2, _⟩ := due_parts h
  exact due_of h1 h2 rfl
theorem flags_nil (ks : List PyData) (ls : List Str) : flagsDue2 ks ls (.dict []) = none := by simp [flagsDue2, flagsDue, namesToD, keysD, srt, goG]
theorem due_empty {dk df dg : PyData} (h : dueD dk df dg = none) : dueD dk df (.dict []) = none := by
  obtain ⟨h1, h2, _⟩ := due_parts h
  exact due_of h1 h2 (flags_nil _ _)
theorem copy_dict {P : Program} {w : World} {K : PySem.W.Frag} {H H' : Hp} {a p : Addr} {ds : List (PyData × PyData)} {kvs : List (Key × V)} (D : DpC P w K H (.ref a) (.dict ds)) (h : H a = some (.dK kvs)) (k : Same H H') (hp : H' p = some (.dK kvs)) : DpC P w K H' (.ref p) (.dict ds) := by
  cases D with
  | @dct _ es _ hc hl hk he ha =>
    have e : es = kvs.map flK := by
      rcases hc with ⟨kv, hr, e⟩ | ⟨hr, _⟩
      · rw [e, rd_unique hr h]
      · rcases hr with hr | ⟨o, hr⟩
        · rw [h] at hr; cases hr
        · rw [h] at hr; cases hr
    exact .dct (.inl ⟨kvs, .inl hp, e⟩) hl (fun q hq => keyOk_same k (hk q hq)) he (ha.same k)
theorem nf_at {H : Hp} {a : Addr} {d : PyData} {kvs : List (Key × V)} (h : H a = some (.dK kvs)) : NF H (.ref a) d := by
  intro b ds eb _ o u e
  cases eb
  rw [h] at e
  cases e
theorem nf_list {H : Hp} {v : V} {ds : List PyData} : NF H v (.list ds) := fun _ _ _ e => nomatch e
theorem nf_tup {H : Hp} {v : V} {ds : List PyData} : NF H v (.tuple ds) := fun _ _ _ e => nomatch e
theorem dp_strs {P : Program} {w : World} {K : PySem.W.Frag} {H : Hp} : ∀ {ks : List Str}, (∀ z ∈ ks, z.length ≤ big) → DpCAll P w K H (ks.map V.str) (ks.map PyData.str)
  | [], _ => .nil
  | z :: r, h => .cons (.str z (h z List.mem_cons_self)) (dp_strs fun y hy => h y (List.mem_cons_of_mem _ hy))

end K17
end
section
set_option Elab.async false
set_option linter.all false
set_option maxRecDepth 100000
set_option maxHeartbeats 4000000
namespace K17
open PySem PySem.Spec PyProof.Rows L2 PySem.EK

def spSchema (P : Program) (w : World) (K : PySem.W.Frag) (C : Addr) : Sp := fun vs H Q _ => ∃ (sc ak af ag : Addr) (ks : List Str) (kf kg : List (Key × V)) (df dg : List (PyData × PyData)), vs = [.ref sc] ∧ Scheme P w K H sc ak af ag ks kf kg df dg ∧
  ∀ H' x, Same H H' → H x = none → SchO C H H' x (srt ks) (fsV kf df) (lsD df) (gsD (.dict dg)) → Q (.ref x) H'
def spChanged (P : Program) (w : World) (K : PySem.W.Frag) : Sp := fun vs H Q _ => ∃ (sc ak af ag : Addr) (ks : List Str) (kf kg : List (Key × V)) (df dg : List (PyData × PyData)), vs = [.ref sc] ∧ Scheme P w K H sc ak af ag ks kf kg df dg ∧ ∀ H', Same H H' → Q (.bl true) H'
section
variable {P : Program} {w : World} {K : PySem.W.Frag} {mg : Str → Option Value} {base : Heap} {C CK CF CG FE e0 f : Addr} {fd : FuncData}
theorem Scheme.get1 {H : Hp} {sc ak af ag : Addr} {ks : List Str} {kf kg : List (Key × V)} {df dg : List (PyData × PyData)} (S : Scheme P w K H sc ak af ag ks kf kg df dg) : DGet H sc (.str "kinds") (some (.ref ak)) := dget_rd (z := "kinds") (.inl S.sc)
theorem Scheme.get2 {H : Hp} {sc ak af ag : Addr} {ks : List Str} {kf kg : List (Key × V)} {df dg : List (PyData × PyData)} (S : Scheme P w K H sc ak af ag ks kf kg df dg) : DGet H sc (.str "fields") (some (.ref af)) := dget_rd (z := "fields") (.inl S.sc)
theorem Scheme.get3 {H : Hp} {sc ak af ag : Addr} {ks : List Str} {kf kg : List (Key × V)} {df dg : List (PyData × PyData)} (S : Scheme P w K H sc ak af ag ks kf kg df dg) : DGet H sc (.str "flags") (some (.ref ag)) := dget_rd (z := "flags") (.inl S.sc)
theorem strs_seq (ks : List Str) : strsD (seqD (.list (ks.map PyData.str))) = ks := strs_map ks
/-- what a right scheme's parts give -/
theorem Scheme.make {H Hc : Hp} {sc ak af ag : Addr} {ks : List Str} {kf kg : List (Key × V)} {df dg : List (PyData × PyData)} (S : Scheme P w K H sc ak af ag ks kf kg df dg) {ak' af' : Addr} {vg : V} {dg' : PyData} (T3 : Three P w K Hc (.ref ak') (.ref af') vg (.list (ks.map PyData.str)) (.dict df) dg') (hf : Hc af' = some (.dK kf)) (hd : dueD (.list (ks.map PyData.str)) (.dict df) dg' = none)
    {Q' : Addr → Hp → Prop} {E' : XK} (good : ∀ x H', Same Hc H' → Hc x = none → SchO C Hc H' x (srt ks) (fsV kf df) (lsD df) (gsD dg') → Q' x H') (x dx : Addr) (hx : Hc x = none) (hdx : Hc dx = none) (hne : dx ≠ x) :
    spInit P w K C CK CF CG [.ref x, .ref ak', .ref af', vg] (upd (upd Hc dx (.own x)) x (.ins C dx [])) (fun v H3 => v = .non ∧ Q' x H3) E' := by
  refine init_call T3 (fun _ x H' af ds kvs e1 e2 N k hx SO => ?_) (fun v e => absurd (hd.symm.trans e) (by simp)) x dx hx hdx hne
  cases e1
  cases e2
  have := rd_unique N.rd hf
  subst this
  rw [strs_seq] at SO
  exact good x H' k hx SO
theorem sc__law_schema : FnScope ["_law_scheme_here"] ["_law_scheme_here"] (defScope s__law_schema) := ⟨rfl, rfl, rfl, by decide +kernel, rfl, by decide +kernel, by decide +kernel⟩
theorem c__law_schema (h : Def K mg "_law_schema" s__law_schema) (T : SchT K mg C) (F : IDef K C e0 f fd) (Fok : FnOk P w K mg base (CX P w) 4 f fd ["self", "kinds", "fields", "flags"] (spInit P w K C CK CF CG)) :
    Cal P w K mg base CX0 6 "_law_schema" ["_law_scheme_here"] (spSchema P w K C) := by
  refine cal_of h sc__law_schema (fun vs H Q E h => ?_) (fun _ _ _ _ _ _ us hl => match us, hl with | [_], _ => rfl) (fun f' cdv A outer s H vs Q E hr h => ?_)
  · obtain ⟨sc, ak, af, ag, ks, kf, kg, df, dg, rfl, _⟩ := h
    rfl
  · obtain ⟨sc, ak, af, ag, ks, kf, kg, df, dg, rfl, S, hQ⟩ := h
    refine ⟨_, PSs.nox (pss_one (ps_ret (pe_makeS (n := 3) F.2 Fok (hr.mono (by decide)) (by rfl) T.g (kb3 F) (passAt takes0) (pa_cons (pe_dget (un_of hr) (pv 0) pe_str (fun _ _ => rfl)) (pa_cons (pe_dget (un_of hr) (pv 0) pe_str (fun _ _ => rfl)) (pa_cons (pe_dget (un_of hr) (pv 0) pe_str (fun _ _ => rfl)) pa_nil)))))), ?_⟩
    refine ⟨_, rfl, sc, _, rfl, S.get1, _, rfl, sc, _, rfl, S.get2, _, rfl, sc, _, rfl, S.get3, rfl, rfl, S.make S.T3 S.f S.due fun x H' k hx SO => ?_⟩
    exact hQ H' x k hx SO
theorem fs_refs {H : Hp} {af : Addr} {df : List (PyData × PyData)} {kf : List (Key × V)} {ks : List PyData} (D : DpC P w K H (.ref af) (.dict df)) (h : H af = some (.dK kf)) (hf : fieldsDue ks (.dict df) = none) : ∀ p ∈ fsV kf df, flatB p.2 = true ∨ ∃ r, p.2 = .ref r := by
  obtain ⟨ds, e, _, hn, hff, _⟩ := fields_ok hf
  cases e
  obtain ⟨kvs, N⟩ := names_at D hn
  have := rd_unique N.rd h
  subst this
  intro p hp
  obtain ⟨z, hz, rfl⟩ := List.mem_map.mp hp
  have hz' := srt_mem.mp hz
  obtain ⟨u, hu, Du⟩ := N.vals z hz'
  obtain ⟨d0, d1, d2, d3, ed, _⟩ := field_four (hff z hz')
  rw [ed] at Du
  refine .inr ?_
  show ∃ r, (valV kvs (Sum.inr z)).getD .non = .ref r
  rw [hu]
  cases Du
  exact ⟨_, rfl⟩
theorem sc__law_changed_right : FnScope ["_law_scheme_here", "_law_breeds", "_law_heads", "_law_marks", "_law_made"] ["_law_scheme_here"] (defScope s__law_changed_right) := ⟨rfl, rfl, rfl, by decide +kernel, rfl, by decide +kernel, by decide +kernel⟩
theorem c__law_changed_right (h : Def K mg "_law_changed_right" s__law_changed_right) (B : Bl mg) (T : SchT K mg C) (F : IDef K C e0 f fd) (Fok : FnOk P w K mg base (CX P w) 4 f fd ["self", "kinds", "fields", "flags"] (spInit P w K C CK CF CG))
    (he0 : ∀ H, SqT K H e0 []) (M_flags : MCal P w K mg base CX0 1 C "flags" ["self"] (spFlagsM C)) (EQ : ∃ f fd, FnOk P w K mg base CX0 3 f fd ["self", "other"] (spEqS C) ∧ OwnEq K C f ∧ Binds K fd ["self", "other"] [])
    (C__law_schema : Cal P w K mg base CX0 6 "_law_schema" ["_law_scheme_here"] (spSchema P w K C)) :
    Cal P w K mg base CX0 7 "_law_changed_right" ["_law_scheme_here"] (spChanged P w K) := by
  obtain ⟨its, kb⟩ := kb2 F
  obtain ⟨fe, fde, Feq, Oeq, Beq⟩ := EQ
  refine cal_of h sc__law_changed_right (fun vs H Q E h => ?_) (fun _ _ _ _ _ _ us hl => match us, hl with | [_], _ => rfl) (fun f' cdv A outer s H vs Q E hr h => ?_)
  · obtain ⟨sc, ak, af, ag, ks, kf, kg, df, dg, rfl, _⟩ := h
    rfl
  · obtain ⟨sc, ak, af, ag, ks, kf, kg, df, dg, rfl, S, hQ⟩ := h
    obtain ⟨hk, hfd, hgd⟩ := due_parts S.due
    obtain ⟨es, hes, ees, hnm, hl1, hl6, hnd⟩ := kinds_ok hk
    cases hes
    have hsz : ∀ z ∈ ks, z.length ≤ big := fun z hz => by
      obtain ⟨y, e, _, h8⟩ := isName_str (hnm _ (List.mem_map.mpr ⟨z, hz, rfl⟩))
      cases e
      exact Nat.le_trans h8 (by decide)
    rw [List.length_map] at hl6
    refine ⟨_, PSs.nox (pss_cons (ps_par (i := 1) (j := 2) (by rfl) sc__law_changed_right.nd rfl rfl (by decide) rfl rfl (pa_cons (pe_callTy call_list_of (by rfl) B.list (by decide +kernel) (pa_cons (pe_dget (un_of hr) (pv 0) pe_str (fun _ _ => rfl)) pa_nil)) (pa_cons (pe_callTy call_dictD (by rfl) B.dict (by decide +kernel) (pa_cons (pe_dget (un_of hr) (pv 0) pe_str (fun _ _ => rfl)) pa_nil)) pa_nil)) (by rfl))
      (pss_cons (ps_set (i := 3) sc__law_changed_right.nd rfl (Or.inl rfl) (pe_callTy call_dictD (by rfl) B.dict (by decide +kernel) (pa_cons (pe_dget (un_of hr) (pv 0) pe_str (fun _ _ => rfl)) pa_nil)))
      (pss_cons (ps_set (i := 4) sc__law_changed_right.nd rfl (Or.inl rfl) (pe_makeS (n := 3) F.2 Fok (hr.mono (by decide)) (by rfl) T.g (kb3 F) (passAt takes0) (pa_cons (pv 1) (pa_cons (pv 2) (pa_cons (pv 3) pa_nil)))))
      (pss_cons (ps_expr (pe_bm PySem.F.plainAttrs_list PySem.F.slot_list_append PySem.F.type_list_append mt_append (pv 1) (pa_cons pe_str pa_nil)))
      (pss_cons (ps_expr (pe_dclear (pv 2)))
      (pss_cons (ps_dput (un_of hr) (pv 3) pe_str pe_str rfl)
      (pss_cons (ps_if (PW.pt (pw_or (pt_cmpR (op_neI Feq Oeq Beq pass0 hr) (pv 4) (pe_c C__law_schema hr pass0 (pa_cons (pv 0) pa_nil)) (nomark _)) (pw_or1 (pt_cmpR (op_neD0 (Nat.lt_of_le_of_lt (Nat.le_add_right _ 1) (un_of hr))) (pe_me0 (pe_makeS (n := 2) F.2 Fok (hr.mono (by decide)) (by rfl) T.g kb (passAt takes0) (pa_cons (pe_dget (un_of hr) (pv 0) pe_str (fun _ _ => rfl)) (pa_cons (pe_dget (un_of hr) (pv 0) pe_str (fun _ _ => rfl)) pa_nil))) T.cl M_flags hr pass0) pe_dnewK (nomark _))))) (pss_one (ps_ret pe_bl)) pss_nil)
      (pss_one (ps_ret (pe_cmpR (op_eqI Feq Oeq Beq pass0 hr) (pe_makeS (n := 3) F.2 Fok (hr.mono (by decide)) (by rfl) T.g (kb3 F) (passAt takes0) (pa_cons (pe_dget (un_of hr) (pv 0) pe_str (fun _ _ => rfl)) (pa_cons (pe_dget (un_of hr) (pv 0) pe_str (fun _ _ => rfl)) (pa_cons (pe_tup pa_nil) pa_nil)))) (pe_makeS (n := 3) F.2 Fok (hr.mono (by decide)) (by rfl) T.g (kb3 F) (passAt takes0) (pa_cons (pe_dget (un_of hr) (pv 0) pe_str (fun _ _ => rfl)) (pa_cons (pe_dget (un_of hr) (pv 0) pe_str (fun _ _ => rfl)) (pa_cons pe_dnewK pa_nil)))) (nomark _))))))))))), ?_⟩
    refine ⟨_, rfl, sc, _, rfl, S.get1, ak, _, rfl, .inl (SqL.of S.k), fun l hl => ?_⟩
    have k1 : Same H (upd H l (.lst (ks.map V.str))) := same_new hl
    refine ⟨_, rfl, sc, _, rfl, (S.same k1).get2, af, kf, rfl, .inl (k1 _ _ S.f), fun a2 ha2 => ⟨_, _, rfl, ?_⟩⟩
    have hl2 : upd (upd H l (.lst (ks.map V.str))) a2 (.dK kf) l = some (.lst (ks.map V.str)) := by rw [upd_ne (ne_of_none upd_same ha2)]; exact upd_same
    have ha22 : upd (upd H l (.lst (ks.map V.str))) a2 (.dK kf) a2 = some (.dK kf) := upd_same
    have k2 : Same H (upd (upd H l (.lst (ks.map V.str))) a2 (.dK kf)) := k1.trans (same_new ha2)
    have fl2 : H l = none := hl
    have fa2 : H a2 = none := k1.free ha2
    revert hl2 ha22 k2
    generalize upd (upd H l (.lst (ks.map V.str))) a2 (.dK kf) = H2
    intro hl2 ha22 k2
    refine ⟨_, rfl, sc, _, rfl, (S.same k2).get3, ag, kg, rfl, .inl (k2 _ _ S.g), fun m hm => ?_⟩
    have fm : H m = none := k2.free hm
    have k3 : Same H2 (upd H2 m (.dK kg)) := same_new hm
    have hm3 : upd H2 m (.dK kg) m = some (.dK kg) := upd_same
    revert k3 hm3
    generalize upd H2 m (.dK kg) = H3
    intro k3' hm3
    have k3 := k2.trans k3'
    have T3 : Three P w K H3 (.ref l) (.ref a2) (.ref m) (.list (ks.map PyData.str)) (.dict df) (.dict dg) :=
      ⟨.lst (SqL.of (k3' _ _ hl2)) (by rw [List.length_map]; exact Nat.le_trans hl6 (by decide)) (dp_strs hsz), copy_dict S.T3.2.1 S.f k3 (k3' _ _ ha22), copy_dict S.T3.2.2.1 S.g k3 hm3, nf_list, nf_at (k3' _ _ ha22), nf_at hm3⟩
    refine ⟨_, rfl, _, rfl, _, rfl, rfl, rfl, S.make T3 (k3' _ _ ha22) S.due fun x H4 k4' hx SO => ?_⟩
    -- append, clear, put
    have hl4 := k4' _ _ (k3' _ _ hl2)
    have ha4 := k4' _ _ (k3' _ _ ha22)
    have hm4 := k4' _ _ hm3
    have nla : a2 ≠ l := fun e => by rw [e, hl2] at ha22; cases ha22
    have nlm : m ≠ l := fun e => by rw [e] at fm; rw [e] at hm4; rw [hl4] at hm4; cases hm4
    have nam : m ≠ a2 := fun e => by rw [e, ha22] at hm; cases hm
    have nxl : x ≠ l := fun e => by rw [e, k3' _ _ hl2] at hx; cases hx
    refine ⟨_, rfl, .inl ⟨rfl, _, SqL.of hl4⟩, l, _, _, rfl, rfl, hl4, (by rw [List.length_map, sizeLine_eq]; omega), ?_⟩
    refine ⟨_, rfl, .inr (.inr (.inl ⟨rfl, .inl ⟨_, (by rw [upd_ne nla]; exact ha4)⟩⟩)), a2, kf, rfl, rfl, (by rw [upd_ne nla]; exact ha4), ?_⟩
    obtain ⟨gs, egs, hg12, hgn, _⟩ := flags_ok (show flagsDue _ _ (.dict dg) = none from hgd)
    cases egs
    obtain ⟨kgs, M⟩ := names_at S.T3.2.2.1 hgn
    have := rd_unique M.rd S.g
    subst this
    have hkl : kgs.length ≤ 12 := by
      have e := congrArg List.length M.keys
      rw [List.length_map, List.length_map, M.len] at e
      omega
    refine ⟨_, rfl, m, _, rfl, DPut.k (k := Sum.inr "late") (by rw [upd_ne nam, upd_ne nlm]; exact hm4) (by rw [sizeLine_eq]; omega), ?_⟩
    have SO7 := ((SO.upd (l := l) (o := .lst (ks.map V.str ++ [.str "late"])) hx (by rw [k3' _ _ hl2]; simp)).upd (l := a2) (o := .dK []) hx (by rw [k3' _ _ ha22]; simp)).upd (l := m) (o := .dK (putK kgs (Sum.inr "late") (.str "late"))) hx (by rw [hm3]; simp)
    have k7 : Same H (upd (upd (upd H4 l (.lst (ks.map V.str ++ [.str "late"]))) a2 (.dK [])) m (.dK (putK kgs (Sum.inr "late") (.str "late")))) := same_mut (same_mut (same_mut (k3.trans k4') fl2) fa2) fm
    revert SO7 k7
    generalize upd (upd (upd H4 l (.lst (ks.map V.str ++ [.str "late"]))) a2 (.dK [])) m (.dK (putK kgs (Sum.inr "late") (.str "late"))) = H7
    intro SO7 k7
    have rfs := fs_refs S.T3.2.1 S.f hfd
    have gs0 : gsD (.tuple []) = [] := by simp [gsD, dictD, keysD, srt]
    have gs1 : gsD (.dict []) = [] := by simp [gsD, dictD, keysD, srt]
    -- made != schema(scheme)
    refine ⟨_, rfl, _, rfl, sc, ak, af, ag, ks, kf, _, df, dg, rfl, S.same k7, fun H8 y k8' hy SO2 => ?_⟩
    have k8 := k7.trans k8'
    have SO8 := SO7.same k8'
    obtain ⟨dx, _, _, _, _, _, hx8, _⟩ := id SO8
    obtain ⟨dy, _, _, _, _, _, hy8, _⟩ := id SO2
    refine ⟨x, y, dx, dy, _, _, rfl, rfl, hx8, hy8, _, _, x, y, _, _, _, _, _, rfl, SO8, SO2, rfs, fun H9 k9' => ⟨true, rfl, _, rfl, iteF ?_⟩⟩
    have k9 := k8.trans k9'
    -- Schema(kinds, fields).flags() != {}
    have S9 := S.same k9
    have T9 : Three P w K H9 (.ref ak) (.ref af) (.ref e0) (.list (ks.map PyData.str)) (.dict df) (.tuple []) := ⟨S9.T3.1, S9.T3.2.1, .tup (he0 _) (Nat.zero_le _) .nil, S9.T3.2.2.2.1, S9.T3.2.2.2.2.1, nf_tup⟩
    refine ⟨_, rfl, sc, _, rfl, S9.get1, _, rfl, sc, _, rfl, S9.get2, rfl, rfl, S.make T9 S9.f (due_unit S.due) fun z H10 k10' hz SO3 => ?_⟩
    have k10 := k9.trans k10'
    obtain ⟨dz, _, _, _, _, _, hz10, _⟩ := id SO3
    refine ⟨z, dz, _, rfl, hz10, rfl, H9, z, _, _, _, _, rfl, SO3, fun H11 p k11' hp0 hp => fun g0 hg0 => ?_⟩
    have k11 := k10.trans k11'
    rw [gs0] at hp
    have k12 : Same H (upd H11 g0 (.dK [])) := k11.trans (same_new hg0)
    refine ⟨p, g0, [], rfl, rfl, .inl (same_new hg0 _ _ hp), .inl upd_same, _, rfl, iteF ?_⟩
    revert k12
    generalize upd H11 g0 (.dK []) = H12
    intro k12
    -- Schema(.., ()) == Schema(.., {})
    have S12 := S.same k12
    refine ⟨_, rfl, sc, _, rfl, S12.get1, _, rfl, sc, _, rfl, S12.get2, (by show 0 ≤ sizeLine; decide), fun te hte => ?_⟩
    have k13 : Same H (upd H12 te (.tup [])) := k12.trans (same_new hte)
    have S13 := S.same k13
    have T13 : Three P w K (upd H12 te (.tup [])) (.ref ak) (.ref af) (.ref te) (.list (ks.map PyData.str)) (.dict df) (.tuple []) := ⟨S13.T3.1, S13.T3.2.1, .tup (SqT.of upd_same) (Nat.zero_le _) .nil, S13.T3.2.2.2.1, S13.T3.2.2.2.2.1, nf_tup⟩
    refine ⟨rfl, rfl, S.make T13 S13.f (due_unit S.due) fun u H14 k14' hu SO4 => ?_⟩
    have k14 := k13.trans k14'
    have S14 := S.same k14
    refine ⟨_, rfl, sc, _, rfl, S14.get1, _, rfl, sc, _, rfl, S14.get2, fun g1 hg1 => ?_⟩
    have k15' : Same H14 (upd H14 g1 (.dK [])) := same_new hg1
    have S15 := S.same (k14.trans k15')
    have T15 : Three P w K (upd H14 g1 (.dK [])) (.ref ak) (.ref af) (.ref g1) (.list (ks.map PyData.str)) (.dict df) (.dict []) := ⟨S15.T3.1, S15.T3.2.1, .dct (es := []) (.inl ⟨[], .inl upd_same, rfl⟩) (Nat.zero_le _) (fun p hp => by cases hp) rfl .nil, S15.T3.2.2.2.1, S15.T3.2.2.2.2.1, nf_at upd_same⟩
    refine ⟨rfl, rfl, S.make T15 S15.f (due_empty S.due) fun t H16 k16' ht SO5 => ?_⟩
    have SO6 := (SO4.same k15').same k16'
    rw [gs0] at SO6
    rw [gs1] at SO5
    obtain ⟨du, _, _, _, _, _, hu16, _⟩ := id SO6
    obtain ⟨dt, _, _, _, _, _, ht16, _⟩ := id SO5
    refine ⟨u, t, du, dt, _, _, rfl, rfl, hu16, ht16, _, _, u, t, _, _, _, _, _, rfl, SO6, SO5, rfs, fun H17 k17' => ⟨true, rfl, ?_⟩⟩
    exact hQ _ (((k14.trans k15').trans k16').trans k17')
end

end K17
end
section
set_option Elab.async false
set_option linter.all false
set_option maxRecDepth 100000
set_option maxHeartbeats 4000000
namespace K17
open PySem PySem.Spec PyProof.Rows L2 PySem.EK
/-! the heap without the pot; the mathematics of the drawn names -/
def hide (p : Addr) (H : Hp) : Hp := fun b => if b = p then none else H b
theorem hide_ne {p b : Addr} {H : Hp} (h : b ≠ p) : hide p H b = H b := if_neg h
theorem hide_at {p : Addr} {H : Hp} : hide p H p = none := if_pos rfl
theorem hide_le {p : Addr} {H : Hp} : Same (hide p H) H := fun b o e => by
  unfold hide at e
  split at e
  · cases e
  · exact e
/-- all but the pot stays -/
def Kp (p : Addr) (H H' : Hp) : Prop := Same (hide p H) (hide p H')
theorem Kp.refl (p : Addr) (H : Hp) : Kp p H H := Same.refl _
theorem Kp.trans {p : Addr} {H H1 H2 : Hp} (a : Kp p H H1) (b : Kp p H1 H2) : Kp p H H2 := Same.trans a b
theorem Kp.of_b {p : Addr} {H H' : Hp} (h : SameB p H H') : Kp p H H' := fun b o e => by
  by_cases hb : b = p
  · subst hb; rw [hide_at] at e; cases e
  · rw [hide_ne hb] at *
    exact h b o hb e
theorem Kp.of_s {p : Addr} {H H' : Hp} (h : Same H H') : Kp p H H' := .of_b fun b o _ e => h b o e
theorem Kp.at {p b : Addr} {H H' : Hp} {o : HO} (k : Kp p H H') (hb : b ≠ p) (e : H b = some o) : H' b = some o := by
  have z := k b o (by rw [hide_ne hb]; exact e)
  rwa [hide_ne hb] at z
theorem Kp.free {p b : Addr} {H H' : Hp} (k : Kp p H H') (e : hide p H' b = none) : hide p H b = none := Same.free k e
theorem Kp.mut {p l : Addr} {H H' : Hp} {o : HO} (k : Kp p H H') (h : hide p H l = none) (hl : l ≠ p) : Kp p H (upd H' l o) := fun b u e => by
  have hb : b ≠ p := fun q => by rw [q, hide_at] at e; cases e
  rw [hide_ne hb, upd_ne (ne_of_none e h)]
  exact k.at hb (by rwa [hide_ne hb] at e)
theorem hide_upd {p l : Addr} {H : Hp} (h : H l = none) : hide p H l = none := by
  unfold hide
  split
  · rfl
  · exact h
def PotAt (H : Hp) (p : Addr) : Prop := ∃ x y : Int, H p = some (.lst [.int x, .int y]) ∧ 0 ≤ x ∧ 0 ≤ y ∧ y < 2147483648
theorem PotAt.same {H H' : Hp} {p : Addr} (h : PotAt H p) (k : Same H H') : PotAt H' p := by
  obtain ⟨x, y, h1, h2⟩ := h
  exact ⟨x, y, k _ _ h1, h2⟩
theorem PotAt.ne {H : Hp} {p l : Addr} (h : PotAt H p) (hl : H l = none) : l ≠ p := fun e => by
  obtain ⟨x, y, h1, _⟩ := h
  rw [e, h1] at hl
  cases hl
theorem PotAt.upd {H : Hp} {p l : Addr} {o : HO} (h : PotAt H p) (hl : l ≠ p) : PotAt (L2.upd H l o) p := by
  obtain ⟨x, y, h1, h2⟩ := h
  exact ⟨x, y, by rw [upd_ne (Ne.symm hl)]; exact h1, h2⟩
abbrev LL : List Nat := L26.cps.toList
/-- a name of at most n letters -/
def Nm (n : Nat) (z : Str) : Prop := 1 ≤ z.length ∧ z.length ≤ n ∧ ∀ c ∈ z.cps.toList, c ∈ LL
theorem Nm.name {n : Nat} {z : Str} (h : Nm n z) (hn : n ≤ 8) : isNameD (.str z) = true := by
  obtain ⟨h1, h2, h3⟩ := h
  simp only [isNameD, Bool.and_eq_true, decide_eq_true_eq, List.all_eq_true]
  exact ⟨⟨h1, by omega⟩, h3⟩
theorem Nm.mono {n m : Nat} {z : Str} (h : Nm n z) (hn : n ≤ m) : Nm m z := ⟨h.1, by have := h.2.1; omega, h.2.2⟩
theorem len_tl (z : Str) : z.length = z.cps.toList.length := by simp [Str.length]
theorem tl_add (a b : Str) : (a ++ b).cps.toList = a.cps.toList ++ b.cps.toList := by
  show (a.cps ++ b.cps).toList = _
  simp
theorem str_inj {a b : Str} (h : a.cps.toList = b.cps.toList) : a = b := str_ext h
def sgn (c : Nat) : Str := ⟨#[c]⟩
def spareL (nm : Str) : List Str := [nm] ++ LL.map (fun c => nm ++ sgn c) ++ LL.map (fun c => nm ++ sgn c ++ ("x" : Str))
theorem LL_nodup : LL.Nodup := by decide +kernel
theorem LL_len : LL.length = 26 := by decide +kernel
theorem x_LL : ∀ c ∈ ("x" : Str).cps.toList, c ∈ LL := by decide +kernel
theorem x_len : ("x" : Str).cps.toList.length = 1 := by decide +kernel
theorem spare_len (nm : Str) : (spareL nm).length = 53 := by unfold spareL; rw [List.length_append, List.length_append, List.length_map, List.length_map, LL_len]; rfl
theorem nm_add {n : Nat} {a b : Str} (h : Nm n a) (hb : ∀ c ∈ b.cps.toList, c ∈ LL) (hl : b.cps.toList.length = 1) : Nm (n + 1) (a ++ b) := by
  obtain ⟨h1, h2, h3⟩ := h
  have e : (a ++ b).length = a.length + 1 := by rw [len_tl, tl_add, List.length_append, hl, ← len_tl]
  refine ⟨by omega, by omega, fun c hc => ?_⟩
  rw [tl_add, List.mem_append] at hc
  exact hc.elim (h3 c) (hb c)
theorem spare_nm {n : Nat} {nm : Str} (h : Nm n nm) : ∀ z ∈ spareL nm, Nm (n + 2) z := by
  intro z hz
  simp only [spareL, List.mem_append, List.mem_map, List.mem_singleton] at hz
  rcases hz with (rfl | ⟨c, hc, rfl⟩) | ⟨c, hc, rfl⟩
  · exact h.mono (by omega)
  · exact (nm_add h (b := sgn c) (fun d hd => by simp [sgn] at hd; rw [hd]; exact hc) rfl).mono (by omega)
  · exact nm_add (nm_add h (b := sgn c) (fun d hd => by simp [sgn] at hd; rw [hd]; exact hc) rfl) x_LL x_len
theorem spare_nodup (nm : Str) : (spareL nm).Nodup := by
  have l1 : ∀ c, (nm ++ sgn c).cps.toList.length = nm.cps.toList.length + 1 := fun c => by rw [tl_add, List.length_append]; rfl
  have l2 : ∀ c, (nm ++ sgn c ++ ("x" : Str)).cps.toList.length = nm.cps.toList.length + 2 := fun c => by rw [tl_add, List.length_append, l1, x_len]
  have inj1 : ∀ c d, nm ++ sgn c = nm ++ sgn d → c = d := fun c d e => by
    have q := congrArg (fun z : Str => z.cps.toList) e
    simp only [tl_add] at q
    have := List.append_cancel_left q
    simpa [sgn] using this
  have inj2 : ∀ c d, nm ++ sgn c ++ ("x" : Str) = nm ++ sgn d ++ ("x" : Str) → c = d := fun c d e => by
    have q := congrArg (fun z : Str => z.cps.toList) e
    simp only [tl_add] at q
    have := List.append_cancel_right q
    have := List.append_cancel_left this
    simpa [sgn] using this
  unfold spareL
  rw [List.nodup_append, List.nodup_append]
  refine ⟨⟨by simp, ?_, ?_⟩, ?_, ?_⟩
  · rw [List.nodup_iff_pairwise_ne]
    exact List.pairwise_map.mpr ((List.nodup_iff_pairwise_ne.mp LL_nodup).imp fun {a b} z q => z (inj1 a b q))
  · intro a ha b hb e
    rw [List.mem_singleton] at ha
    obtain ⟨c, _, rfl⟩ := List.mem_map.mp hb
    have := l1 c
    rw [← e, ha] at this
    omega
  · rw [List.nodup_iff_pairwise_ne]
    exact List.pairwise_map.mpr ((List.nodup_iff_pairwise_ne.mp LL_nodup).imp fun {a b} z q => z (inj2 a b q))
  · intro a ha b hb e
    obtain ⟨d, _, rfl⟩ := List.mem_map.mp hb
    have q := l2 d
    rw [← e] at q
    rcases List.mem_append.mp ha with ha | ha
    · rw [List.mem_singleton] at ha
      rw [ha] at q
      omega
    · obtain ⟨c, _, rfl⟩ := List.mem_map.mp ha
      rw [l1] at q
      omega
theorem nodup_le {α : Type} [DecidableEq α] : ∀ (l m : List α), l.Nodup → (∀ x ∈ l, x ∈ m) → l.length ≤ m.length
  | [], _, _, _ => Nat.zero_le _
  | x :: l, m, nd, h => by
    rw [List.nodup_cons] at nd
    have hx := h x List.mem_cons_self
    have ih := nodup_le l (m.erase x) nd.2 fun y hy => by
      have hne : y ≠ x := fun e => nd.1 (by rw [← e]; exact hy)
      exact (List.mem_erase_of_ne hne).mpr (h y (List.mem_cons_of_mem _ hy))
    rw [List.length_erase_of_mem hx] at ih
    have : 0 < m.length := List.length_pos_of_mem hx
    rw [List.length_cons]
    omega
theorem spare_free {nm : Str} {found : List Str} (h : found.length < 53) : ∃ z, (spareL nm).filter (fun z => decide (z ∉ found)) = z :: ((spareL nm).filter (fun z => decide (z ∉ found))).tail ∧ z ∈ spareL nm ∧ z ∉ found := by
  cases e : (spareL nm).filter (fun z => decide (z ∉ found)) with
  | nil =>
    exfalso
    rw [List.filter_eq_nil_iff] at e
    have := nodup_le (spareL nm) found (spare_nodup nm) fun x hx => by
      have := e x hx
      simpa using this
    rw [spare_len] at this
    omega
  | cons z r =>
    have hz : z ∈ (spareL nm).filter (fun z => decide (z ∉ found)) := by rw [e]; exact List.mem_cons_self
    rw [List.mem_filter] at hz
    exact ⟨z, rfl, hz.1, by simpa using hz.2⟩
theorem join_nm : ∀ {ys : List Str}, (∀ y ∈ ys, ∃ c ∈ LL, y = sgn c) → (Txt.join ("" : Str) ys).cps.toList.length = ys.length ∧ ∀ c ∈ (Txt.join ("" : Str) ys).cps.toList, c ∈ LL := by
  have e0 : TL.tl ("" : Str) = [] := by decide +kernel
  intro ys h
  have ej : (Txt.join ("" : Str) ys).cps.toList = TL.joinL [] (ys.map TL.tl) := by
    have := TL.tl_join ("" : Str) ys
    rw [e0, ← TL.join_eq] at this
    exact this
  rw [ej]
  have go : ∀ {ys : List Str}, (∀ y ∈ ys, ∃ c ∈ LL, y = sgn c) → (TL.joinL [] (ys.map TL.tl)).length = ys.length ∧ ∀ c ∈ TL.joinL [] (ys.map TL.tl), c ∈ LL := by
    intro ys
    induction ys with
    | nil => intro _; exact ⟨rfl, fun c hc => by cases hc⟩
    | cons y r ih =>
      intro h
      obtain ⟨c, hc, rfl⟩ := h y List.mem_cons_self
      obtain ⟨i1, i2⟩ := ih fun z hz => h z (List.mem_cons_of_mem _ hz)
      have et : TL.tl (sgn c) = [c] := rfl
      cases r with
      | nil =>
        refine ⟨rfl, fun d hd => ?_⟩
        have hd' : d ∈ [c] := hd
        rw [List.mem_singleton] at hd'
        rw [hd']
        exact hc
      | cons y2 r =>
        have ej : TL.joinL [] ((sgn c :: y2 :: r).map TL.tl) = [c] ++ ([] ++ TL.joinL [] ((y2 :: r).map TL.tl)) := rfl
        rw [ej, List.nil_append]
        refine ⟨by rw [List.length_append, i1]; simp; omega, fun d hd => ?_⟩
        rcases List.mem_append.mp hd with hd | hd
        · rw [List.mem_singleton] at hd
          rw [hd]
          exact hc
        · exact i2 d hd
  exact go h
end K17
end
section
set_option Elab.async false
set_option linter.all false
set_option maxRecDepth 100000
set_option maxHeartbeats 4000000
namespace K17
open PySem PySem.Spec PyProof.Rows L2 PySem.EK

abbrev s__law_named : Stmt := top 25
def spPotP (K : PySem.W.Frag) : Sp := fun vs H Q _ => ∃ (a : Addr) (ns : List Int) (k : Int), vs = [.ref a, .int k] ∧ SqL K H a (ns.map V.int) ∧ 0 ≤ k ∧ k ≤ 100 ∧ ∀ p H', Same H H' → H p = none → PotAt H' p → Q (.ref p) H'
def spDrawP : Sp := fun vs H Q _ => ∃ (p : Addr) (m : Int), vs = [.ref p, .int m] ∧ PotAt H p ∧ 0 < m ∧ m < 1073741824 ∧ ∀ H' d, Kp p H H' → PotAt H' p → 0 ≤ d → d < m → Q (.int d) H'
def spPickP : Sp := fun vs H Q _ => ∃ (p l : Addr) (xs : List V), vs = [.ref p, .ref l] ∧ PotAt H p ∧ H l = some (.lst xs) ∧ l ≠ p ∧ xs ≠ [] ∧ xs.length < 1000000 ∧ ∀ H' v, Kp p H H' → PotAt H' p → v ∈ xs → Q v H'
def spNamed : Sp := fun vs H Q _ => ∃ (p t : Addr) (n : Nat), vs = [.ref p, .int n, .ref t] ∧ PotAt H p ∧ H t = some (.lst []) ∧ t ≠ p ∧ n ≤ 15 ∧
  ∀ (H' : Hp) (l : Addr) (names : List Str), Kp p H H' → PotAt H' p → hide p H l = none → l ≠ p → H' l = some (.lst (names.map V.str)) → names.length = n → names.Nodup → (∀ z ∈ names, Nm 5 z) → Q (.ref l) H'
section
variable {P : Program} {w : World} {K : PySem.W.Frag} {mg : Str → Option Value} {base : Heap}
theorem c_pot (h : Def K mg "_law_pot" sPot) (B : Bl mg) : Cal P w K mg base CX0 1 "_law_pot" ["_law_script", "_law_k"] (spPotP K) := by
  obtain ⟨f, fd, F, m⟩ := h
  refine ⟨f, fd, (ok_pot F B).imp fun vs H Q E h => ?_, m, F.kp, F.bindsN (fun _ _ _ _ _ _ us hl => match us, hl with | [_, _], _ => rfl)⟩
  obtain ⟨a, ns, k, rfl, hs, h0, h1, hQ⟩ := h
  exact ⟨a, ns, k, rfl, hs, h0, h1, fun p x y hp hx hy hy2 => hQ p _ (same_new hp) hp ⟨x, y, upd_same, hx, hy, hy2⟩⟩
theorem c_draw (h : Def K mg "_law_draw" sDraw) (B : Bl mg) : Cal P w K mg base CX0 1 "_law_draw" ["_law_pot_here", "_law_many"] spDrawP := by
  obtain ⟨f, fd, F, m⟩ := h
  refine ⟨f, fd, (ok_draw F B).imp fun vs H Q E h => ?_, m, F.kp, F.bindsN (fun _ _ _ _ _ _ us hl => match us, hl with | [_, _], _ => rfl)⟩
  obtain ⟨p, m, rfl, ⟨x, y, hp, hx, hy, hy2⟩, h0, h1, hQ⟩ := h
  exact ⟨p, x, y, m, rfl, hp, hx, hy, hy2, h0, h1, fun H' x' y' d k hp' hx' hy' hy2' hd hd2 => hQ H' d (.of_b k) ⟨x', y', hp', hx', hy', hy2'⟩ hd hd2⟩
theorem c_pick (h : Def K mg "_law_pick" sPick) (B : Bl mg) (C__law_draw : Cal P w K mg base CX0 1 "_law_draw" ["_law_pot_here", "_law_many"] spDrawP) : Cal P w K mg base CX0 2 "_law_pick" ["_law_pot_here", "_law_some"] spPickP := by
  refine cal_of h scPick (fun vs H Q E h => ?_) (fun _ _ _ _ _ _ us hl => match us, hl with | [_, _], _ => rfl) (fun f cdv A outer s H vs Q E hr h => ?_)
  · obtain ⟨p, l, xs, rfl, _⟩ := h
    rfl
  · obtain ⟨p, l, xs, rfl, hp, hl, hlp, hne, hlen, hQ⟩ := h
    refine ⟨_, PSs.nox (pss_one (ps_ret (pe_ix ix_list (pv 1) (pe_c C__law_draw hr pass0 (pa_cons (pv 0) (pa_cons (pe_callB call_len_seq (by rfl) B.len (by decide +kernel) (pa_cons (pv 1) pa_nil)) pa_nil))) (fun _ _ => rfl)))), ?_⟩
    have h0 : 0 < xs.length := List.length_pos_iff.mpr hne
    refine ⟨_, rfl, _, rfl, _, rfl, l, xs, rfl, .inl (SqL.of hl), p, _, rfl, hp, by omega, by omega, fun H' d k p' hd0 hd1 => ?_⟩
    have hlt : d.toNat < xs.length := by omega
    have hat : atI xs d = some xs[d.toNat] := by
      have q := atI_nat (xs := xs) (j := d.toNat) (v := xs[d.toNat]) (by simp [hlt])
      rwa [Int.toNat_of_nonneg hd0] at q
    exact ⟨l, xs, d, _, rfl, rfl, SqL.of (k.at hlp hl), hat, hQ H' _ k p' (List.getElem_mem hlt)⟩

theorem op_notInQ {X : Cx} (K : PySem.W.Frag) (hK : X.K = K := by rfl) : OpR X (compareOp .NotIn) (rIn K true) := by
  subst hK
  exact op_notIn_seq
theorem sc__law_named : FnScope ["_law_pot_here", "_law_many", "_law_taken", "_law_letters", "_law_found", "_law_k", "_law_name", "_law_spare", "_law_turn", "_law_one"] ["_law_pot_here", "_law_many", "_law_taken"] (defScope s__law_named) := ⟨rfl, rfl, rfl, by decide +kernel, rfl, by decide +kernel, by decide +kernel⟩
theorem c__law_named (h : Def K mg "_law_named" s__law_named) (B : Bl mg) (C__law_draw : Cal P w K mg base CX0 1 "_law_draw" ["_law_pot_here", "_law_many"] spDrawP) :
    Cal P w K mg base CX0 2 "_law_named" ["_law_pot_here", "_law_many", "_law_taken"] spNamed := by
  refine cal_of h sc__law_named (fun vs H Q E h => ?_) (fun _ _ _ _ _ _ us hl => match us, hl with | [_, _, _], _ => rfl) (fun f cdv A outer s H vs Q E hr h => ?_)
  · obtain ⟨p, t, n, rfl, _⟩ := h
    rfl
  · obtain ⟨p, t, n, rfl, hp, ht, htp, hn, hQ⟩ := h
    refine ⟨_, PSs.nox (pss_cons (ps_asg (pe_tup (pa_cons pe_str (pa_cons (pe_lst pa_nil) pa_nil))) (pg_tup (by rfl) (pgs_cons (pg_name (i := 3) sc__law_named.nd rfl (Or.inr rfl)) (pgs_cons (pg_name (i := 4) sc__law_named.nd rfl (Or.inr rfl)) pgs_nil))))
      (pss_cons (ps_for PassesOwn.never rfl (pi_range1 (by rfl) B.range (pa_cons (pv 1) pa_nil)) (pg_name (i := 5) sc__law_named.nd rfl (Or.inl rfl)) (C8.pss_cut (ps_set (i := 6) sc__law_named.nd rfl (Or.inr rfl) (pe_join pe_str (pe_lc (own := [("_law_turn", 8)]) (by rfl) sc__law_named.nd (pi_range1 (by rfl) B.range (pa_cons (pe_op op_add pe_int (pe_c C__law_draw hr pass0 (pa_cons (pv 0) (pa_cons pe_int pa_nil)))) pa_nil)) (blkOk_by (own := [("_law_turn", 8)]) (N := ["_law_pot_here", "_law_many", "_law_taken", "_law_letters", "_law_found", "_law_k", "_law_name", "_law_spare", "_law_turn", "_law_one"]) (sc := defScope s__law_named) (by decide +kernel)) (fun _ _ _ _ _ => (pg_name (i := 8) sc__law_named.nd rfl (Or.inl rfl))) (fun _ _ _ _ _ => pts_nil) (fun _ _ _ _ _ => (pe_ix ix_str (pv 3) (pe_c C__law_draw hr pass0 (pa_cons (pv 0) (pa_cons pe_int pa_nil))) (fun _ _ => rfl))))))
      (C8.pss_cut (ps_set (i := 7) sc__law_named.nd rfl (Or.inl rfl) (pe_op op_cat (pe_op op_cat (pe_lst (pa_cons (pv 6) pa_nil)) (pe_lc (own := [("_law_one", 9)]) (by rfl) sc__law_named.nd (pi_str (pv 3)) (blkOk_by (own := [("_law_one", 9)]) (N := ["_law_pot_here", "_law_many", "_law_taken", "_law_letters", "_law_found", "_law_k", "_law_name", "_law_spare", "_law_turn", "_law_one"]) (sc := defScope s__law_named) (by decide +kernel)) (fun _ _ _ _ _ => (pg_name (i := 9) sc__law_named.nd rfl (Or.inl rfl))) (fun _ _ _ _ _ => pts_nil) (fun _ _ _ _ _ => (pe_op op_add_str (pv 6) (pv 9))))) (pe_lc (own := [("_law_one", 9)]) (by rfl) sc__law_named.nd (pi_str (pv 3)) (blkOk_by (own := [("_law_one", 9)]) (N := ["_law_pot_here", "_law_many", "_law_taken", "_law_letters", "_law_found", "_law_k", "_law_name", "_law_spare", "_law_turn", "_law_one"]) (sc := defScope s__law_named) (by decide +kernel)) (fun _ _ _ _ _ => (pg_name (i := 9) sc__law_named.nd rfl (Or.inl rfl))) (fun _ _ _ _ _ => pts_nil) (fun _ _ _ _ _ => (pe_op op_add_str (pe_op op_add_str (pv 6) (pv 9)) pe_str)))))
      (pss_one (ps_expr (pe_bm PySem.F.plainAttrs_list PySem.F.slot_list_append PySem.F.type_list_append mt_append (pv 4) (pa_cons (pe_ix ix_list (pe_lc (own := [("_law_one", 9)]) (by rfl) sc__law_named.nd (pi_list (pv 7)) (blkOk_by (own := [("_law_one", 9)]) (N := ["_law_pot_here", "_law_many", "_law_taken", "_law_letters", "_law_found", "_law_k", "_law_name", "_law_spare", "_law_turn", "_law_one"]) (sc := defScope s__law_named) (by decide +kernel)) (fun _ _ _ _ _ => (pg_name (i := 9) sc__law_named.nd rfl (Or.inl rfl))) (fun _ _ _ _ _ => pts_one (PW.pt (pw_and (pt_cmpR (op_notInQ K) (pv 9) (pv 4) (by rfl)) (pw_and1 (pt_cmpR (op_notInQ K) (pv 9) (pv 2) (by rfl)))))) (fun _ _ _ _ _ => (pv 9))) pe_int (fun _ _ => rfl)) pa_nil)))))))
      (pss_one (ps_ret (pv 4))))), ?_⟩
    refine ⟨(by show 0 ≤ sizeLine; decide), fun lf hlf => ⟨(by show 2 ≤ sizeLine; decide), fun tt htt => ⟨tt, _, rfl, SqT.of upd_same, rfl, _, _, rfl, _, _, rfl, rfl, ?_⟩⟩⟩
    have flp : lf ≠ p := hp.ne hlf
    have hl1 : upd (upd H lf (.lst [])) tt (.tup [.str "abcdefghijklmnopqrstuvwxyz", .ref lf]) lf = some (.lst []) := by rw [upd_ne (ne_of_none upd_same htt)]; exact upd_same
    have k1 : Same H (upd (upd H lf (.lst [])) tt (.tup [.str "abcdefghijklmnopqrstuvwxyz", .ref lf])) := (same_new hlf).trans (same_new htt)
    revert hl1 k1
    generalize upd (upd H lf (.lst [])) tt (.tup [.str "abcdefghijklmnopqrstuvwxyz", .ref lf]) = H1
    intro hl1 k1
    have flf : hide p H lf = none := hide_upd hlf
    have htl : t ≠ lf := ne_of_none ht hlf
    refine ⟨_, rfl, (n : Int), rfl, by omega, by omega, ?_⟩
    rw [Int.toNat_natCast]
    refine for_range (lo := 0) (n := n) (fun i σ Hc => Kp p H Hc ∧ PotAt Hc p ∧ Hc t = some (.lst []) ∧ ∃ (names : List Str) (s5 s6 s7 : Option V), Hc lf = some (.lst (names.map V.str)) ∧ names.length = i ∧ names.Nodup ∧ (∀ z ∈ names, Nm 5 z) ∧ σ = [some (.ref p), some (.int n), some (.ref t), some (.str L26), some (.ref lf), s5, s6, s7, none, none]) ?_ ?_ ?_
    · exact ⟨.of_s k1, hp.same k1, k1 _ _ ht, [], none, none, none, hl1, rfl, List.nodup_nil, (fun z hz => by cases hz), rfl⟩
    · rintro i σ Hc hi ⟨kc, pc, tc, names, s5, s6, s7, hlc, hli, hnd, hnm, rfl⟩
      -- the name
      refine ⟨fun σ' H' => Kp p Hc H' ∧ PotAt H' p ∧ ∃ nm, Nm 3 nm ∧ σ' = [some (.ref p), some (.int n), some (.ref t), some (.str L26), some (.ref lf), some (.int (0 + (i : Int))), some (.str nm), s7, none, none], ?_, ?_⟩
      · refine ⟨⟨_, rfl⟩, _, rfl, p, 3, rfl, pc, by decide, by decide, fun H2 d k2 p2 hd0 hd3 => ⟨_, _, rfl, rfl, 1 + d, rfl, by omega, by omega, fun D hD => ?_⟩⟩
        have hDp : D ≠ p := p2.ne hD
        refine lc_it walk_range (fun j Hx => Kp p H2 Hx ∧ PotAt Hx p ∧ ∃ ys : List Str, Hx D = some (.lst (ys.map V.str)) ∧ ys.length = j ∧ ∀ y ∈ ys, ∃ c ∈ LL, y = sgn c) ⟨.of_s (same_new hD), p2.same (same_new hD), [], upd_same, rfl, fun y hy => by cases hy⟩ (fun _ _ _ _ => trivial) ?_ ?_
        · rintro j x Hx Hy hj ⟨kx, px, ys, hDx, hyl, hys⟩ ⟨rfl, rfl⟩
          refine ⟨rfl, tYes_in ?_⟩
          refine ⟨_, rfl, _, rfl, p, 26, rfl, px, by decide, by decide, fun H3 e k3 p3 he0 he26 => ?_⟩
          have hlt : e.toNat < LL.length := by rw [LL_len]; omega
          have hat : atI LL e = some LL[e.toNat] := by
            have q := atI_nat (xs := LL) (j := e.toNat) (v := LL[e.toNat]) (by simp [hlt])
            rwa [Int.toNat_of_nonneg he0] at q
          refine ⟨L26, e, _, rfl, rfl, (by decide +kernel), hat, _, k3.at hDp hDx, by rw [List.length_map, hyl, sizeLine_eq]; omega, ?_⟩
          refine ⟨(kx.trans k3).mut (hide_upd hD) hDp, p3.upd hDp, ys ++ [sgn LL[e.toNat]], by rw [upd_same, List.map_append]; rfl, by rw [List.length_append, hyl]; rfl, fun y hy => ?_⟩
          rcases List.mem_append.mp hy with hy | hy
          · exact hys y hy
          · rw [List.mem_singleton] at hy
            exact ⟨_, List.getElem_mem hlt, hy⟩
        · rintro Hx ⟨kx, px, ys, hDx, hyl, hys⟩
          obtain ⟨j1, j2⟩ := join_nm hys
          have hsum : (ys.map (·.length)).sum ≤ 3 * ys.length := by
            have go : ∀ l : List Str, (∀ y ∈ l, ∃ c ∈ LL, y = sgn c) → (l.map (·.length)).sum ≤ 3 * l.length := by
              intro l
              induction l with
              | nil => intro _; exact Nat.le_refl _
              | cons y r ih =>
                intro h
                obtain ⟨c, _, rfl⟩ := h y List.mem_cons_self
                have := ih fun z hz => h z (List.mem_cons_of_mem _ hz)
                have e1 : (sgn c).length = 1 := rfl
                simp only [List.map_cons, List.sum_cons, List.length_cons, e1]
                omega
            exact go ys hys
          refine ⟨("" : Str), D, ys, rfl, rfl, .inl (SqL.of hDx), ?_, k2.trans kx, px, _, ⟨?_, ?_, j2⟩, rfl⟩
          · have : ("" : Str).length = 0 := by decide +kernel
            rw [this]
            omega
          · rw [len_tl, j1, hyl]
            omega
          · rw [len_tl, j1, hyl]
            omega
      rintro _ H4 ⟨k4, p4, nm, hnm3, rfl⟩
      -- the spare ones
      refine ⟨fun σ' H' => Kp p H4 H' ∧ PotAt H' p ∧ ∃ sp, H' sp = some (.lst ((spareL nm).map V.str)) ∧ sp ≠ p ∧ σ' = [some (.ref p), some (.int n), some (.ref t), some (.str L26), some (.ref lf), some (.int (0 + (i : Int))), some (.str nm), some (.ref sp), none, none], ?_, ?_⟩
      · refine ⟨_, rfl, (by show 1 ≤ sizeLine; decide), fun a ha => ?_⟩
        have s1 : Same H4 (upd H4 a (.lst [.str nm])) := same_new ha
        have ha1 : upd H4 a (.lst [V.str nm]) a = some (.lst [.str nm]) := upd_same
        revert s1 ha1
        generalize upd H4 a (.lst [V.str nm]) = Ha
        intro s1 ha1
        have hn3 : nm.length ≤ 3 := hnm3.2.1
        refine ⟨_, rfl, L26, rfl, fun D hD => ?_⟩
        refine lc_flt walk_str (fun _ _ => trivial) hD (by decide +kernel) (fun i => (LL[i]?).map fun c => V.str (nm ++ sgn c)) ?_ ?_
        · rintro j x Hx Hy hj kx ⟨rfl, c, hc, rfl⟩ Nx hN
          have hc' : LL[j]? = some c := by rw [Array.getElem?_toList]; exact hc
          refine ⟨rfl, tYes_in ?_⟩
          refine ⟨_, rfl, _, rfl, nm, sgn c, rfl, rfl, (by rw [sizeLine_eq]; have : (sgn c).length = 1 := rfl; omega), ?_⟩
          have z := hN Hy (Same.refl _)
          rw [hc'] at z
          exact z
        intro Hx kx hDx
        have e1 : (List.range L26.cps.size).filterMap (fun i => (LL[i]?).map fun c => V.str (nm ++ sgn c)) = (LL.map fun c => nm ++ sgn c).map V.str := by
          rw [show L26.cps.size = LL.length from rfl, fm_all (F := fun c => some (V.str (nm ++ sgn c))) (fun i x hx => by rw [hx]; rfl), List.map_map]
          simp [Function.comp_def]
        rw [e1] at hDx
        have s2 := s1.trans kx
        refine ⟨a, D, _, _, rfl, rfl, kx _ _ ha1, hDx, (by rw [List.length_map, List.length_map, LL_len, sizeLine_eq]; simp), fun b hb => ?_⟩
        have s3 : Same H4 (upd Hx b (.lst ([V.str nm] ++ (LL.map fun c => nm ++ sgn c).map V.str))) := s2.trans (same_new hb)
        have hb1 : upd Hx b (.lst ([V.str nm] ++ (LL.map fun c => nm ++ sgn c).map V.str)) b = some (.lst (([nm] ++ LL.map fun c => nm ++ sgn c).map V.str)) := upd_same
        revert s3 hb1
        generalize upd Hx b (.lst ([V.str nm] ++ (LL.map fun c => nm ++ sgn c).map V.str)) = Hb
        intro s3 hb1
        refine ⟨_, rfl, L26, rfl, fun D2 hD2 => ?_⟩
        refine lc_flt walk_str (fun _ _ => trivial) hD2 (by decide +kernel) (fun i => (LL[i]?).map fun c => V.str (nm ++ sgn c ++ ("x" : Str))) ?_ ?_
        · rintro j x Hx Hy hj kx ⟨rfl, c, hc, rfl⟩ Nx hN
          have hc' : LL[j]? = some c := by rw [Array.getElem?_toList]; exact hc
          refine ⟨rfl, tYes_in ?_⟩
          have hsg : (nm ++ sgn c).length = nm.length + 1 := by rw [len_tl, tl_add, List.length_append, ← len_tl]; rfl
          have hx1 : ("x" : Str).length = 1 := by decide +kernel
          refine ⟨_, rfl, _, rfl, nm, sgn c, rfl, rfl, (by rw [sizeLine_eq]; have : (sgn c).length = 1 := rfl; omega), nm ++ sgn c, ("x" : Str), rfl, rfl, (by rw [sizeLine_eq, hsg, hx1]; omega), ?_⟩
          have z := hN Hy (Same.refl _)
          rw [hc'] at z
          exact z
        intro Hz kz hDz
        have e2 : (List.range L26.cps.size).filterMap (fun i => (LL[i]?).map fun c => V.str (nm ++ sgn c ++ ("x" : Str))) = (LL.map fun c => nm ++ sgn c ++ ("x" : Str)).map V.str := by
          rw [show L26.cps.size = LL.length from rfl, fm_all (F := fun c => some (V.str (nm ++ sgn c ++ ("x" : Str)))) (fun i x hx => by rw [hx]; rfl), List.map_map]
          simp [Function.comp_def]
        rw [e2] at hDz
        have s4 := s3.trans kz
        refine ⟨b, D2, _, _, rfl, rfl, kz _ _ hb1, hDz, (by rw [List.length_map, List.length_map, List.length_append, List.length_map, List.length_map, LL_len, sizeLine_eq]; simp), fun sp hsp => ?_⟩
        have s5' := s4.trans (same_new (o := .lst ((([nm] ++ LL.map fun c => nm ++ sgn c).map V.str) ++ (LL.map fun c => nm ++ sgn c ++ ("x" : Str)).map V.str)) hsp)
        refine ⟨.of_s s5', p4.same s5', sp, ?_, (p4.same s4).ne hsp, rfl⟩
        rw [upd_same]
        simp only [spareL, List.map_append]
      rintro _ H5 ⟨k5, p5, sp, hsp, hspp, rfl⟩
      have kc5 := (kc.trans k4).trans k5
      have hlf5 : H5 lf = some (.lst (names.map V.str)) := (k4.trans k5).at flp hlc
      have ht5 : H5 t = some (.lst []) := (k4.trans k5).at htp tc
      refine ⟨_, rfl, .inl ⟨rfl, _, SqL.of hlf5⟩, _, rfl, sp, rfl, ⟨_, SqL.of hsp⟩, fun D hD => ?_⟩
      refine lc_flt (walk_strs (l := spareL nm)) (fun Hx k => k.seq (SqL.of hsp)) hD (by rw [spare_len, sizeLine_eq]; omega) (fun i => ((spareL nm)[i]?).bind fun z => if z ∈ names then none else some (V.str z)) ?_ ?_
      · rintro j x Hx Hy hj kx ⟨rfl, z, hz, rfl⟩ Nx hN
        have z' := hN Hy (Same.refl _)
        rw [hz] at z'
        dsimp only [Option.bind] at z'
        refine ⟨rfl, ?_⟩
        refine ⟨_, rfl, _, rfl, lf, _, rfl, .inl (SqL.of (kx _ _ hlf5)), rfl, flat_strs names, _, rfl, ?_⟩
        show ite ((!inV (V.str z) (names.map V.str)) = true) _ _
        rw [in_strs]
        by_cases hin : z ∈ names
        · rw [if_pos hin] at z'
          rw [decide_eq_true hin]
          exact iteF (iteF z')
        · rw [if_neg hin] at z'
          rw [decide_eq_false hin]
          refine iteT ⟨_, rfl, _, rfl, t, [], rfl, .inl (SqL.of (kx _ _ ht5)), rfl, rfl, _, rfl, ?_⟩
          exact iteT ⟨_, rfl, z'⟩
      · intro Hx kx hDx
        have e1 : (List.range (spareL nm).length).filterMap (fun i => ((spareL nm)[i]?).bind fun z => if z ∈ names then none else some (V.str z)) = ((spareL nm).filter fun z => decide (z ∉ names)).map V.str := by
          rw [fm_all (F := fun z => if z ∈ names then none else some (V.str z)) (fun i x hx => by rw [hx]; rfl)]
          generalize spareL nm = l
          induction l with
          | nil => rfl
          | cons y r ih =>
            rw [List.filterMap_cons, List.filter_cons]
            by_cases h : y ∈ names
            · simp only [h, if_true, not_true, decide_false, Bool.false_eq_true, if_false]
              exact ih
            · simp only [h, if_false, not_false_eq_true, decide_true, if_true, List.map_cons]
              rw [ih]
        rw [e1] at hDx
        obtain ⟨z, ez, hzs, hzn⟩ := spare_free (nm := nm) (found := names) (by omega)
        rw [ez] at hDx
        refine ⟨D, _, 0, .str z, rfl, rfl, SqL.of hDx, atI_nat (xs := V.str z :: _) (j := 0) rfl, lf, _, _, rfl, rfl, kx _ _ hlf5, by rw [List.length_map, hli, sizeLine_eq]; omega, ?_⟩
        refine ⟨(kc5.trans (.of_s kx)).mut flf flp, (p5.same kx).upd flp, by rw [upd_ne htl]; exact kx _ _ ht5, names ++ [z], _, _, _, by rw [upd_same, List.map_append]; rfl, by rw [List.length_append, hli]; rfl, ?_, ?_, rfl⟩
        · rw [List.nodup_append]
          refine ⟨hnd, by simp, fun a ha b hb e => ?_⟩
          rw [List.mem_singleton] at hb
          rw [e, hb] at ha
          exact hzn ha
        · intro y hy
          rcases List.mem_append.mp hy with hy | hy
          · exact hnm y hy
          · rw [List.mem_singleton] at hy
            rw [hy]
            exact spare_nm hnm3 z hzs
    · rintro σ Hc ⟨kc, pc, _, names, s5, s6, s7, hlc, hli, hnd, hnm, rfl⟩
      exact ⟨_, rfl, hQ Hc lf names kc pc flf flp hlc hli hnd hnm⟩
end

end K17
end
section
set_option Elab.async false
set_option linter.all false
set_option maxRecDepth 100000
set_option maxHeartbeats 4000000
namespace K17
open PySem PySem.Spec PyProof.Rows L2 PySem.EK
/-! a drawn scheme is a right one -/
structure FR where
  name : Str
  kind : Str
  target : Str
  back : Option Str
  single : Bool
def optD : Option Str → PyData
  | none => .none
  | some b => .str b
def optV : Option Str → V
  | none => .non
  | some b => .str b
def rowD (r : FR) : PyData := .tuple [.str r.kind, .str r.target, optD r.back, .bool r.single]
def dfR (rows : List FR) : List (PyData × PyData) := rows.map fun r => (.str r.name, rowD r)
def dgR (gs : List (Str × Str)) : List (PyData × PyData) := gs.map fun p => (.str p.1, .str p.2)
theorem keys_dfR (rows : List FR) : keysD (dfR rows) = rows.map (·.name) := by
  induction rows with
  | nil => rfl
  | cons r l ih =>
    show r.name :: keysD (dfR l) = _
    rw [ih]
    rfl
theorem keys_dgR (gs : List (Str × Str)) : keysD (dgR gs) = gs.map (·.1) := by
  induction gs with
  | nil => rfl
  | cons r l ih =>
    show r.1 :: keysD (dgR l) = _
    rw [ih]
    rfl
theorem val_dfR : ∀ {rows : List FR} {r : FR}, (rows.map (·.name)).Nodup → r ∈ rows → valD (dfR rows) r.name = rowD r
  | [], _, _, h => by cases h
  | q :: l, r, nd, h => by
    rw [List.map_cons, List.nodup_cons] at nd
    have ed : ∀ y, valD (dfR (q :: l)) y = if q.name = y then rowD q else valD (dfR l) y := fun y => by
      unfold valD isKey dfR
      rw [List.map_cons, List.find?_cons]
      by_cases h : q.name = y
      · simp [h, strOf]
      · simp [h, strOf]
    rw [ed]
    rcases List.mem_cons.mp h with rfl | h
    · rw [if_pos rfl]
    · rw [if_neg (fun e => nd.1 (by rw [e]; exact List.mem_map.mpr ⟨r, h, rfl⟩))]
      exact val_dfR nd.2 h
theorem val_dgR : ∀ {gs : List (Str × Str)} {r : Str × Str}, (gs.map (·.1)).Nodup → r ∈ gs → valD (dgR gs) r.1 = .str r.2
  | [], _, _, h => by cases h
  | q :: l, r, nd, h => by
    rw [List.map_cons, List.nodup_cons] at nd
    have ed : ∀ y, valD (dgR (q :: l)) y = if q.1 = y then .str q.2 else valD (dgR l) y := fun y => by
      unfold valD isKey dgR
      rw [List.map_cons, List.find?_cons]
      by_cases h : q.1 = y
      · simp [h, strOf]
      · simp [h, strOf]
    rw [ed]
    rcases List.mem_cons.mp h with rfl | h
    · rw [if_pos rfl]
    · rw [if_neg (fun e => nd.1 (by rw [e]; exact List.mem_map.mpr ⟨r, h, rfl⟩))]
      exact val_dgR nd.2 h
theorem back_rowD (r : FR) : backL (backD (rowD r)) = r.back.toList := by
  unfold backL
  show (strOf (optD r.back)).toList = _
  cases r.back <;> rfl
theorem backs_dfR {rows : List FR} (nd : (rows.map (·.name)).Nodup) : ∀ {l : List FR}, (∀ r ∈ l, r ∈ rows) → backs (dfR rows) (l.map (·.name)) = l.filterMap (·.back)
  | [], _ => rfl
  | r :: l, h => by
    have eb : backs (dfR rows) ((r :: l).map (·.name)) = backL (backD (valD (dfR rows) r.name)) ++ backs (dfR rows) (l.map (·.name)) := rfl
    rw [eb, val_dfR nd (h r List.mem_cons_self), back_rowD, backs_dfR nd (fun q hq => h q (List.mem_cons_of_mem _ hq)), List.filterMap_cons]
    cases r.back <;> rfl
theorem goF_none {ks : List PyData} {ds : List (PyData × PyData)} : ∀ {l taken : List Str}, (∀ z ∈ l, isFieldD ks (valD ds z) = true) → (backs ds l).Nodup → (∀ y ∈ backs ds l, y ∉ keysD ds ∧ y ∉ taken) → goF ks ds taken l = none
  | [], _, _, _, _ => rfl
  | z :: r, taken, h1, h2, h3 => by
    have eb : backs ds (z :: r) = backL (backD (valD ds z)) ++ backs ds r := rfl
    rw [eb] at h2 h3
    rw [List.nodup_append] at h2
    unfold goF
    rw [h1 z List.mem_cons_self, if_pos rfl]
    have hin : inL (keysD ds ++ taken) (backD (valD ds z)) = false := by
      unfold inL
      cases hs : strOf (backD (valD ds z)) with
      | none => rfl
      | some b =>
        have hb : b ∈ backL (backD (valD ds z)) ++ backs ds r := by
          refine List.mem_append_left _ ?_
          unfold backL
          rw [hs]
          simp
        have := h3 b hb
        simp [this.1, this.2]
    rw [hin]
    refine goF_none (fun y hy => h1 y (List.mem_cons_of_mem _ hy)) h2.2.1 fun y hy => ?_
    have := h3 y (List.mem_append_right _ hy)
    refine ⟨this.1, fun q => ?_⟩
    rcases List.mem_append.mp q with q | q
    · exact this.2 q
    · exact h2.2.2 y q y hy rfl
theorem goG_none {ks : List PyData} {ls : List Str} {ds : List (PyData × PyData)} : ∀ {l : List Str}, (∀ z ∈ l, z ∉ ls ∧ kindOfD ks (valD ds z) = true) → goG ks ls ds l = none
  | [], _ => rfl
  | z :: r, h => by
    unfold goG
    have := h z List.mem_cons_self
    rw [this.2, decide_eq_false this.1]
    exact goG_none fun y hy => h y (List.mem_cons_of_mem _ hy)
theorem kinds_good {ks : List Str} (h1 : 1 ≤ ks.length) (h6 : ks.length ≤ 6) (nd : ks.Nodup) (hn : ∀ z ∈ ks, isNameD (.str z) = true) : kindsDue (.list (ks.map PyData.str)) = none := by
  unfold kindsDue
  rw [show seqOf (.list (ks.map PyData.str)) = some (ks.map PyData.str) from rfl]
  dsimp only
  rw [List.length_map, if_pos ⟨h1, h6⟩, find_range_none]
  · rfl
  · intro j hj
    unfold kBad
    rw [List.getElem?_map, List.getElem?_eq_getElem hj]
    show (!isNameD (.str ks[j]) || strIn ((ks.map PyData.str).take j) (.str ks[j])) = false
    rw [hn _ (List.getElem_mem hj)]
    show hasD ks[j] ((ks.map PyData.str).take j) = false
    rw [← List.map_take, has_str, decide_eq_false_iff_not]
    intro q
    obtain ⟨i, hi, e⟩ := List.getElem_of_mem q
    rw [List.getElem_take] at e
    rw [List.length_take] at hi
    rw [List.nodup_iff_pairwise_ne, List.pairwise_iff_getElem] at nd
    exact nd i j (by omega) hj (by omega) e
theorem filterMap_sub : ∀ {rows : List FR} {M : List Str}, Paired (fun (r : FR) m => r.back = none ∨ r.back = some m) rows M → (rows.filterMap (·.back)).Sublist M
  | _, _, .nil => List.Sublist.slnil
  | _, _, .cons (a := r) h t => by
    have ih := filterMap_sub t
    rw [List.filterMap_cons]
    rcases h with h | h
    · rw [h]
      exact ih.cons _
    · rw [h]
      exact ih.cons_cons _
/-- what the drawing of a scheme gives -/
structure Drawn (ks N : List Str) (rows : List FR) (gs : List (Str × Str)) : Prop where
  k1 : 1 ≤ ks.length
  k6 : ks.length ≤ 6
  k3 : ks.length ≤ 3
  knd : ks.Nodup
  kn : ∀ z ∈ ks, Nm 5 z
  nl : N.length = 15
  nnd : N.Nodup
  nn : ∀ z ∈ N, Nm 5 z
  r6 : rows.length ≤ 6
  rn : rows.map (·.name) = N.take rows.length
  rb : Paired (fun (r : FR) m => r.back = none ∨ r.back = some m) rows ((N.drop 6).take rows.length)
  rk : ∀ r ∈ rows, r.kind ∈ ks ∧ r.target ∈ ks
  g3 : gs.length ≤ 3
  gn : gs.map (·.1) = (N.drop 12).take gs.length
  gk : ∀ p ∈ gs, p.2 ∈ ks
theorem Drawn.due {ks N : List Str} {rows : List FR} {gs : List (Str × Str)} (d : Drawn ks N rows gs) : dueD (.list (ks.map PyData.str)) (.dict (dfR rows)) (.dict (dgR gs)) = none := by
  have sub1 : (rows.map (·.name)).Sublist N := by rw [d.rn]; exact List.take_sublist _ _
  have nd1 := d.nnd.sublist sub1
  have sub2 := filterMap_sub d.rb
  have nd2 : (rows.filterMap (·.back)).Nodup := (d.nnd.sublist ((List.take_sublist _ _).trans (List.drop_sublist _ _))).sublist sub2
  have hN := List.take_append_drop 6 N
  have disj : ∀ y, y ∈ N.take 6 → y ∈ N.drop 6 → False := fun y h1 h2 => by
    have := d.nnd
    rw [← hN, List.nodup_append] at this
    exact this.2.2 y h1 y h2 rfl
  have hN2 := List.take_append_drop 12 N
  have disj2 : ∀ y, y ∈ N.take 12 → y ∈ N.drop 12 → False := fun y h1 h2 => by
    have := d.nnd
    rw [← hN2, List.nodup_append] at this
    exact this.2.2 y h1 y h2 rfl
  have hname : ∀ r ∈ rows, r.name ∈ N.take 6 := fun r hr => by
    have h : r.name ∈ N.take rows.length := by rw [← d.rn]; exact List.mem_map.mpr ⟨r, hr, rfl⟩
    exact (List.take_subset_take_left _ d.r6) h
  have hback : ∀ y ∈ rows.filterMap (·.back), y ∈ (N.drop 6).take 6 := fun y hy => (List.take_subset_take_left _ d.r6) (sub2.subset hy)
  have keq := keys_dfR rows
  have beq : backs (dfR rows) (keysD (dfR rows)) = rows.filterMap (·.back) := by rw [keq]; exact backs_dfR nd1 fun r hr => hr
  have hkd : ∀ z ∈ ks, kindOfD (ks.map PyData.str) (.str z) = true := fun z hz => by
    show hasD z (ks.map PyData.str) = true
    rw [has_str]
    exact decide_eq_true hz
  have hfield : ∀ z ∈ keysD (dfR rows), isFieldD (ks.map PyData.str) (valD (dfR rows) z) = true := fun z hz => by
    rw [keq] at hz
    obtain ⟨r, hr, rfl⟩ := List.mem_map.mp hz
    rw [val_dfR nd1 hr]
    obtain ⟨q1, q2⟩ := d.rk r hr
    unfold rowD isFieldD
    dsimp only
    rw [hkd _ q1, hkd _ q2]
    cases hb : r.back with
    | none => rfl
    | some b =>
      have hbN : b ∈ N := (List.drop_subset 6 N) ((List.take_subset _ _) (hback b (List.mem_filterMap.mpr ⟨r, hr, hb⟩)))
      show (true && true && ((isT "NoneType" (.str b) || isNameD (.str b)) && isT "bool" (.bool r.single))) = true
      rw [(d.nn b hbN).name (by decide)]
      rfl
  have hnames : ∀ {ds : List (PyData × PyData)} {n : Nat}, ds.length ≤ 12 → (∀ p ∈ ds, isNameD p.1 = true) → namesToD 12 (.dict ds) = true := fun {ds n} hl hp => by
    have : (ds.length : Int) ≤ 12 := by omega
    simp only [namesToD, Bool.and_eq_true, decide_eq_true_eq, List.all_eq_true]
    exact ⟨this, hp⟩
  refine due_of (kinds_good d.k1 d.k6 d.knd fun z hz => (d.kn z hz).name (by decide)) ?_ ?_
  · show fieldsDue (ks.map PyData.str) (.dict (dfR rows)) = none
    have hl : (dfR rows).length ≤ 12 := by unfold dfR; rw [List.length_map]; have := d.r6; omega
    have hp : ∀ p ∈ dfR rows, isNameD p.1 = true := fun p hp => by
      obtain ⟨r, hr, rfl⟩ := List.mem_map.mp hp
      exact (d.nn r.name ((List.take_subset _ _) (hname r hr))).name (by decide)
    simp only [fieldsDue, hnames (n := 0) hl hp, if_true]
    rw [goF_none]
    · rfl
    · exact fun z hz => hfield z (srt_mem.mp hz)
    · exact (backs_perm (srt_perm _)).nodup_iff.mpr (by rw [beq]; exact nd2)
    · intro y hy
      have hy' := (backs_perm (ds := dfR rows) (srt_perm (keysD (dfR rows)))).mem_iff.mp hy
      rw [beq] at hy'
      refine ⟨fun q => ?_, by simp⟩
      rw [keq] at q
      obtain ⟨r, hr, e⟩ := List.mem_map.mp q
      have h1 := hname r hr
      rw [e] at h1
      exact disj y h1 ((List.take_subset _ _) (hback y hy'))
  · show flagsDue (ks.map PyData.str) (linksD (dfR rows)) (.dict (dgR gs)) = none
    have sub3 : (gs.map (·.1)).Sublist N := by rw [d.gn]; exact (List.take_sublist _ _).trans (List.drop_sublist _ _)
    have nd3 := d.nnd.sublist sub3
    have hl : (dgR gs).length ≤ 12 := by unfold dgR; rw [List.length_map]; have := d.g3; omega
    have hgn : ∀ p ∈ gs, p.1 ∈ N.drop 12 := fun p hp => (List.take_subset gs.length _) (by rw [← d.gn]; exact List.mem_map.mpr ⟨p, hp, rfl⟩)
    have hp : ∀ p ∈ dgR gs, isNameD p.1 = true := fun p hp => by
      obtain ⟨r, hr, rfl⟩ := List.mem_map.mp hp
      exact (d.nn r.1 ((List.drop_subset _ _) (hgn r hr))).name (by decide)
    simp only [flagsDue, hnames (n := 0) hl hp, if_true]
    rw [goG_none]
    · rfl
    · intro z hz
      have hz' := srt_mem.mp hz
      rw [keys_dgR] at hz'
      obtain ⟨r, hr, rfl⟩ := List.mem_map.mp hz'
      rw [val_dgR nd3 hr]
      refine ⟨fun q => ?_, hkd _ (d.gk r hr)⟩
      unfold linksD at q
      rw [beq, keq] at q
      refine disj2 r.1 ?_ (hgn r hr)
      rcases List.mem_append.mp q with q | q
      · obtain ⟨f, hf, e⟩ := List.mem_map.mp q
        rw [← e]
        exact (List.take_subset_take_left N (by decide : 6 ≤ 12)) (hname f hf)
      · have h1 := hback _ q
        have e : N.take 12 = N.take 6 ++ (N.drop 6).take 6 := by rw [show (12 : Nat) = 6 + 6 from rfl, List.take_add]
        rw [e]
        exact List.mem_append_right _ h1
end K17
end
section
set_option Elab.async false
set_option linter.all false
set_option maxRecDepth 100000
set_option maxHeartbeats 4000000
namespace K17
open PySem PySem.Spec PyProof.Rows L2 PySem.EK

abbrev s__law_scheme : Stmt := top 26
def RowOk (H : Hp) (r : FR) (kv : Key × V) : Prop := kv.1 = Sum.inr r.name ∧ ∃ t, kv.2 = .ref t ∧ H t = some (.tup [.str r.kind, .str r.target, optV r.back, .bl r.single])
theorem rows_to {H H' : Hp} (h : ∀ t xs, H t = some (.tup xs) → H' t = some (.tup xs)) : ∀ {rows : List FR} {kvs : List (Key × V)}, Paired (RowOk H) rows kvs → Paired (RowOk H') rows kvs
  | _, _, .nil => .nil
  | _, _, .cons ⟨h1, t, h2, h3⟩ q => .cons ⟨h1, t, h2, h _ _ h3⟩ (rows_to h q)
theorem pot_tup {H : Hp} {p t : Addr} {xs : List V} (h : PotAt H p) (e : H t = some (.tup xs)) : t ≠ p := fun q => by
  obtain ⟨x, y, h1, _⟩ := h
  rw [q, h1] at e
  cases e
theorem rows_kp {p : Addr} {H H' : Hp} (k : Kp p H H') (h : PotAt H p) {rows : List FR} {kvs : List (Key × V)} (r : Paired (RowOk H) rows kvs) : Paired (RowOk H') rows kvs := rows_to (fun t xs e => k.at (pot_tup h e) e) r
theorem rows_upd {H : Hp} {a : Addr} {o : HO} {kvs' : List (Key × V)} (ha : H a = some (.dK kvs')) {rows : List FR} {kvs : List (Key × V)} (r : Paired (RowOk H) rows kvs) : Paired (RowOk (upd H a o)) rows kvs := rows_to (fun t xs e => by
  rw [upd_ne (fun q => by rw [q, ha] at e; cases e)]
  exact e) r
theorem rows_new {H : Hp} {a : Addr} {o : HO} (ha : H a = none) {rows : List FR} {kvs : List (Key × V)} (r : Paired (RowOk H) rows kvs) : Paired (RowOk (upd H a o)) rows kvs := rows_to (fun t xs e => by
  rw [upd_ne (ne_of_none e ha)]
  exact e) r
theorem rows_keys {H : Hp} : ∀ {rows : List FR} {kvs : List (Key × V)}, Paired (RowOk H) rows kvs → kvs.map (·.1) = (rows.map (·.name)).map Sum.inr ∧ kvs.length = rows.length
  | _, _, .nil => ⟨rfl, rfl⟩
  | _, _, .cons ⟨h1, _⟩ q => by
    obtain ⟨i1, i2⟩ := rows_keys q
    refine ⟨?_, by rw [List.length_cons, List.length_cons, i2]⟩
    rw [List.map_cons, List.map_cons, List.map_cons, h1, i1]
section
variable {P : Program} {w : World} {K : PySem.W.Frag}
theorem dp_rows {H : Hp} {a : Addr} {rows : List FR} {kvs : List (Key × V)} (r : Paired (RowOk H) rows kvs) (ha : H a = some (.dK kvs)) (hl : rows.length ≤ 100) (hs : ∀ q ∈ rows, q.name.length ≤ 100 ∧ q.kind.length ≤ 100 ∧ q.target.length ≤ 100 ∧ ∀ b, q.back = some b → b.length ≤ 100) : DpC P w K H (.ref a) (.dict (dfR rows)) := by
  have hb : (100 : Nat) ≤ big := by decide
  have go : ∀ {rows : List FR} {kvs : List (Key × V)}, Paired (RowOk H) rows kvs → (∀ q ∈ rows, q.name.length ≤ 100 ∧ q.kind.length ≤ 100 ∧ q.target.length ≤ 100 ∧ ∀ b, q.back = some b → b.length ≤ 100) →
      (∀ e ∈ kvs.map flK, KeyOk K H e.1) ∧ (dfR rows).map (·.1) = (kvs.map flK).map (·.1.d) ∧ DpCAll P w K H ((kvs.map flK).map (·.2)) ((dfR rows).map (·.2)) := by
    intro rows kvs r
    induction r with
    | nil => intro _; exact ⟨(fun e he => by cases he), rfl, .nil⟩
    | @cons q kv rows kvs h t ih =>
      intro hs
      obtain ⟨i1, i2, i3⟩ := ih fun q hq => hs q (List.mem_cons_of_mem _ hq)
      obtain ⟨h1, t', h2, h3⟩ := h
      obtain ⟨s1, s2, s3, s4⟩ := hs q List.mem_cons_self
      refine ⟨fun e he => ?_, ?_, ?_⟩
      · rcases List.mem_cons.mp he with rfl | he
        · show KeyOk K H (.fl (kV kv.1))
          rw [h1]
          refine ⟨trivial, rfl, fun x hx => ?_⟩
          rcases hx with hx | hx
          · cases hx
            exact Nat.le_trans s1 hb
          · cases hx
        · exact i1 e he
      · show PyData.str q.name :: (dfR rows).map (·.1) = MK.d (.fl (kV kv.1)) :: (kvs.map flK).map (·.1.d)
        rw [h1, i2]
        rfl
      · refine .cons ?_ i3
        show DpC P w K H kv.2 (rowD q)
        rw [h2]
        refine .tup (SqT.of h3) (by show 4 ≤ big; decide) (.cons (.str _ (Nat.le_trans s2 hb)) (.cons (.str _ (Nat.le_trans s3 hb)) (.cons ?_ (.cons (.bl _) .nil))))
        cases e : q.back with
        | none => exact .non
        | some b => exact .str _ (Nat.le_trans (s4 b e) hb)
  obtain ⟨g1, g2, g3⟩ := go r hs
  exact .dct (.inl ⟨kvs, .inl ha, rfl⟩) (by rw [List.length_map, (rows_keys r).2]; exact Nat.le_trans hl hb) g1 g2 g3
def kgR (gs : List (Str × Str)) : List (Key × V) := gs.map fun p => (Sum.inr p.1, .str p.2)
theorem dp_flags {H : Hp} {a : Addr} {gs : List (Str × Str)} (ha : H a = some (.dK (kgR gs))) (hl : gs.length ≤ 100) (hs : ∀ q ∈ gs, q.1.length ≤ 100 ∧ q.2.length ≤ 100) : DpC P w K H (.ref a) (.dict (dgR gs)) := by
  have hb : (100 : Nat) ≤ big := by decide
  have go : ∀ {gs : List (Str × Str)}, (∀ q ∈ gs, q.1.length ≤ 100 ∧ q.2.length ≤ 100) →
      (∀ e ∈ (kgR gs).map flK, KeyOk K H e.1) ∧ (dgR gs).map (·.1) = ((kgR gs).map flK).map (·.1.d) ∧ DpCAll P w K H (((kgR gs).map flK).map (·.2)) ((dgR gs).map (·.2)) := by
    intro gs
    induction gs with
    | nil => intro _; exact ⟨(fun e he => by cases he), rfl, .nil⟩
    | cons q gs ih =>
      intro hs
      obtain ⟨i1, i2, i3⟩ := ih fun q hq => hs q (List.mem_cons_of_mem _ hq)
      obtain ⟨s1, s2⟩ := hs q List.mem_cons_self
      refine ⟨fun e he => ?_, ?_, .cons (.str _ (Nat.le_trans s2 hb)) i3⟩
      · rcases List.mem_cons.mp he with rfl | he
        · refine ⟨trivial, rfl, fun x hx => ?_⟩
          rcases hx with hx | hx
          · cases hx
            exact Nat.le_trans s1 hb
          · cases hx
        · exact i1 e he
      · show PyData.str q.1 :: (dgR gs).map (·.1) = PyData.str q.1 :: ((kgR gs).map flK).map (·.1.d)
        rw [i2]
  obtain ⟨g1, g2, g3⟩ := go hs
  exact .dct (.inl ⟨_, .inl ha, rfl⟩) (by unfold kgR; rw [List.length_map, List.length_map]; exact Nat.le_trans hl hb) g1 g2 g3
end
def spScheme (P : Program) (w : World) (K : PySem.W.Frag) : Sp := fun vs H Q _ => ∃ p : Addr, vs = [.ref p, .int 6] ∧ PotAt H p ∧
  ∀ (H' : Hp) (sc ak af ag : Addr) (ks N : List Str) (rows : List FR) (gs : List (Str × Str)) (kf : List (Key × V)), Kp p H H' → PotAt H' p → Drawn ks N rows gs → Scheme P w K (hide p H') sc ak af ag ks kf (kgR gs) (dfR rows) (dgR gs) → Q (.ref sc) H'
theorem nm_ne {H : Hp} {a b : Addr} {u v : HO} (h1 : H a = some u) (h2 : H b = some v) (h : u ≠ v) : a ≠ b := fun e => by
  rw [e, h2] at h1
  exact h (Option.some.inj h1).symm
section
variable {P : Program} {w : World} {K : PySem.W.Frag} {mg : Str → Option Value} {base : Heap}
theorem sc__law_scheme : FnScope ["_law_pot_here", "_law_wide", "_law_breeds", "_law_names", "_law_heads", "_law_marks", "_law_k", "_law_back"] ["_law_pot_here", "_law_wide"] (defScope s__law_scheme) := ⟨rfl, rfl, rfl, by decide +kernel, rfl, by decide +kernel, by decide +kernel⟩
theorem c__law_scheme (h : Def K mg "_law_scheme" s__law_scheme) (B : Bl mg) (C__law_draw : Cal P w K mg base CX0 1 "_law_draw" ["_law_pot_here", "_law_many"] spDrawP) (C__law_pick : Cal P w K mg base CX0 2 "_law_pick" ["_law_pot_here", "_law_some"] spPickP)
    (C__law_named : Cal P w K mg base CX0 2 "_law_named" ["_law_pot_here", "_law_many", "_law_taken"] spNamed) :
    Cal P w K mg base CX0 3 "_law_scheme" ["_law_pot_here", "_law_wide"] (spScheme P w K) := by
  refine cal_of h sc__law_scheme (fun vs H Q E h => ?_) (fun _ _ _ _ _ _ us hl => match us, hl with | [_, _], _ => rfl) (fun f cdv A outer s H vs Q E hr h => ?_)
  · obtain ⟨p, rfl, _⟩ := h
    rfl
  · obtain ⟨p, rfl, hp, hQ⟩ := h
    refine ⟨_, PSs.nox (pss_cons (ps_set (i := 2) sc__law_scheme.nd rfl (Or.inl rfl) (pe_c C__law_named hr pass0 (pa_cons (pv 0) (pa_cons (pe_op op_add pe_int (pe_c C__law_draw hr pass0 (pa_cons (pv 0) (pa_cons pe_int pa_nil)))) (pa_cons (pe_lst pa_nil) pa_nil)))))
      (pss_cons (ps_set (i := 3) sc__law_scheme.nd rfl (Or.inl rfl) (pe_c C__law_named hr pass0 (pa_cons (pv 0) (pa_cons (pe_op op_add (pe_op op_mul pe_int (pv 1)) pe_int) (pa_cons (pe_lst pa_nil) pa_nil)))))
      (pss_cons (ps_par (i := 4) (j := 5) (by rfl) sc__law_scheme.nd rfl rfl (by decide) rfl rfl (pa_cons pe_dnewK (pa_cons pe_dnewK pa_nil)) (by rfl))
      (C8.pss_cut (ps_for PassesOwn.never rfl (pi_range1 (by rfl) B.range (pa_cons (pe_c C__law_draw hr pass0 (pa_cons (pv 0) (pa_cons (pe_op op_add (pv 1) pe_int) pa_nil))) pa_nil)) (pg_name (i := 6) sc__law_scheme.nd rfl (Or.inl rfl)) (C8.pss_cut (ps_set (i := 7) sc__law_scheme.nd rfl (Or.inl rfl) (pe_ifExp (pt_cmpR op_gt (pe_c C__law_draw hr pass0 (pa_cons (pv 0) (pa_cons pe_int pa_nil))) pe_int (nomark _)) (pe_ix ix_list (pv 3) (pe_op op_add (pv 1) (pv 6)) (fun _ _ => rfl)) pe_non))
      (pss_one (ps_dput (un_of hr) (pv 4) (pe_ix ix_list (pv 3) (pv 6) (fun _ _ => rfl)) (pe_tup (pa_cons (pe_c C__law_pick hr pass0 (pa_cons (pv 0) (pa_cons (pv 2) pa_nil))) (pa_cons (pe_c C__law_pick hr pass0 (pa_cons (pv 0) (pa_cons (pv 2) pa_nil))) (pa_cons (pv 7) (pa_cons (pe_cmpR op_eq (pe_c C__law_draw hr pass0 (pa_cons (pv 0) (pa_cons pe_int pa_nil))) pe_int (nomark _)) pa_nil))))) rfl))))
      (C8.pss_cut (ps_for PassesOwn.never rfl (pi_range1 (by rfl) B.range (pa_cons (pe_c C__law_draw hr pass0 (pa_cons (pv 0) (pa_cons pe_int pa_nil))) pa_nil)) (pg_name (i := 6) sc__law_scheme.nd rfl (Or.inl rfl)) (pss_one (ps_dput (un_of hr) (pv 5) (pe_ix ix_list (pv 3) (pe_op op_add (pe_op op_mul pe_int (pv 1)) (pv 6)) (fun _ _ => rfl)) (pe_c C__law_pick hr pass0 (pa_cons (pv 0) (pa_cons (pv 2) pa_nil))) rfl)))
      (pss_one (ps_ret (pe_disp (pps_cons pe_str (pv 2) (pps_cons pe_str (pv 4) (pps_cons pe_str (pv 5) pps_nil))) (by rfl) (by rfl) (fun z => by cases z) (by decide))))))))), ?_⟩
    -- kinds
    refine ⟨_, rfl, _, rfl, p, 3, rfl, hp, by decide, by decide, fun H1 d k1 p1 hd0 hd3 => ⟨_, _, rfl, rfl, (by show 0 ≤ sizeLine; decide), fun t ht => ?_⟩⟩
    have s1 := same_new (o := .lst []) ht
    refine ⟨p, t, (1 + d).toNat, by rw [Int.toNat_of_nonneg (by omega)]; rfl, p1.same s1, upd_same, p1.ne ht, by omega, fun H2 lb ks k2' p2 flb hlb hk hkl hknd hkn => ?_⟩
    have k2 := (k1.trans (.of_s s1)).trans k2'
    -- names
    refine ⟨_, rfl, _, rfl, _, _, rfl, rfl, (show CMul _ _ from Or.inl ⟨by decide, by decide⟩), _, _, rfl, rfl, (by show 0 ≤ sizeLine; decide), fun t2 ht2 => ?_⟩
    have s2 := same_new (o := .lst []) ht2
    refine ⟨p, t2, 15, rfl, p2.same s2, upd_same, p2.ne ht2, by decide, fun H3 ln N k3' p3 fln hln hN hNl hNnd hNn => ?_⟩
    have k3 := (Kp.of_s s2).trans k3'
    have hk3 := k3.at hlb hk
    -- empty dicts
    intro hh fhh hm fhm
    have shh := (same_new (o := .dK []) fhh).trans (same_new (o := .dK []) fhm)
    have hhp : hh ≠ p := p3.ne fhh
    have hmp : hm ≠ p := (p3.same (same_new fhh)).ne fhm
    have ehh : upd (upd H3 hh (.dK [])) hm (.dK []) hh = some (.dK []) := by rw [upd_ne (ne_of_none upd_same fhm)]; exact upd_same
    have ehm : upd (upd H3 hh (.dK [])) hm (.dK []) hm = some (.dK []) := upd_same
    have nhm : hh ≠ hm := ne_of_none upd_same fhm
    have fhh3 : hide p H3 hh = none := hide_upd fhh
    have fhm3 : hide p H3 hm = none := hide_upd ((same_new fhh).free fhm)
    revert shh ehh ehm
    generalize upd (upd H3 hh (.dK [])) hm (.dK []) = H4
    intro shh ehh ehm
    refine ⟨_, _, rfl, ?_⟩
    have p4 := p3.same shh
    have k4 : Kp p H H4 := (k2.trans k3).trans (.of_s shh)
    have hk4 := shh _ _ hk3
    have hN4 := shh _ _ hN
    have k1l : 1 ≤ ks.length := by omega
    have kne : ks.map V.str ≠ [] := fun e => by
      have := congrArg List.length e
      rw [List.length_map] at this
      simp at this
      rw [this] at k1l
      simp at k1l
    -- fields
    refine ⟨fun σ Hc => Kp p H3 Hc ∧ PotAt Hc p ∧ Hc hm = some (.dK []) ∧ ∃ (rows : List FR) (kvs : List (Key × V)) (s6 s7 : Option V), rows.length ≤ 6 ∧ Hc hh = some (.dK kvs) ∧ Paired (RowOk Hc) rows kvs ∧ rows.map (·.name) = N.take rows.length ∧ Paired (fun (r : FR) m => r.back = none ∨ r.back = some m) rows ((N.drop 6).take rows.length) ∧ (∀ r ∈ rows, r.kind ∈ ks ∧ r.target ∈ ks) ∧ σ = [some (.ref p), some (.int 6), some (.ref lb), some (.ref ln), some (.ref hh), some (.ref hm), s6, s7], ?_, ?_⟩
    · refine ⟨_, rfl, _, rfl, _, _, rfl, rfl, p, 7, rfl, p4, by decide, by decide, fun H5 n k5 p5 hn0 hn7 => ⟨n, rfl, by omega, by omega, ?_⟩⟩
      refine for_range (lo := 0) (n := n.toNat) (fun i σ Hc => Kp p H3 Hc ∧ PotAt Hc p ∧ Hc hm = some (.dK []) ∧ ∃ (rows : List FR) (kvs : List (Key × V)) (s6 s7 : Option V), rows.length = i ∧ Hc hh = some (.dK kvs) ∧ Paired (RowOk Hc) rows kvs ∧ rows.map (·.name) = N.take rows.length ∧ Paired (fun (r : FR) m => r.back = none ∨ r.back = some m) rows ((N.drop 6).take rows.length) ∧ (∀ r ∈ rows, r.kind ∈ ks ∧ r.target ∈ ks) ∧ σ = [some (.ref p), some (.int 6), some (.ref lb), some (.ref ln), some (.ref hh), some (.ref hm), s6, s7]) ?_ ?_ ?_
      · exact ⟨(Kp.of_s shh).trans k5, p5, k5.at hmp ehm, [], [], none, none, rfl, k5.at hhp ehh, .nil, by simp, by simpa using Paired.nil, (fun r hr => by cases hr), rfl⟩
      · rintro i σ Hc hi ⟨kc, pc, hmc, rows, kvs, s6, s7, hri, hhc, hrows, hrn, hrb, hrk, rfl⟩
        have hi6 : i < 6 := by omega
        -- the list's name
        refine ⟨fun σ' H' => Kp p Hc H' ∧ PotAt H' p ∧ ∃ ob : Option Str, (ob = none ∨ ob = N[6 + i]?) ∧ σ' = [some (.ref p), some (.int 6), some (.ref lb), some (.ref ln), some (.ref hh), some (.ref hm), some (.int (0 + (i : Int))), some (optV ob)], ?_, ?_⟩
        · refine ⟨_, rfl, p, 4, rfl, pc, by decide, by decide, fun H6 b k6 p6 hb0 hb4 => ⟨_, _, rfl, rfl, _, rfl, ?_⟩⟩
          by_cases hb : b > 0
          · rw [decide_eq_true hb]
            refine iteT ⟨_, rfl, _, rfl, _, rfl, _, _, rfl, rfl, ?_⟩
            have hlt : 6 + i < N.length := by omega
            have hat : atI (N.map V.str) (6 + (0 + (i : Int))) = some (V.str N[6 + i]) := by
              have q := atI_nat (xs := N.map V.str) (j := 6 + i) (v := V.str N[6 + i]) (by simp [hlt])
              rwa [show ((6 + i : Nat) : Int) = 6 + (0 + (i : Int)) by omega] at q
            refine ⟨ln, _, _, _, rfl, rfl, SqL.of (k6.at hln (kc.at hln hN)), hat, k6, p6, some N[6 + i], .inr (by rw [List.getElem?_eq_getElem hlt]), rfl⟩
          · rw [decide_eq_false hb]
            exact iteF ⟨k6, p6, none, .inl rfl, rfl⟩
        rintro _ H7 ⟨k7, p7, ob, hob, rfl⟩
        -- the row
        have k47 := kc.trans k7
        refine ⟨_, rfl, _, rfl, p, lb, _, rfl, p7, k47.at hlb hk3, hlb, kne, (by rw [List.length_map]; omega), fun H8 v1 k8 p8 hv1 => ?_⟩
        obtain ⟨z1, hz1, rfl⟩ := List.mem_map.mp hv1
        refine ⟨_, rfl, _, rfl, p, lb, _, rfl, p8, (k47.trans k8).at hlb hk3, hlb, kne, (by rw [List.length_map]; omega), fun H9 v2 k9 p9 hv2 => ?_⟩
        obtain ⟨z2, hz2, rfl⟩ := List.mem_map.mp hv2
        refine ⟨_, rfl, _, rfl, p, 3, rfl, p9, by decide, by decide, fun H10 e k10 p10 he0 he3 => ?_⟩
        refine ⟨rfl, (by show 4 ≤ sizeLine; decide), fun tr htr => ?_⟩
        have k710 := (k8.trans k9).trans k10
        have kall := (k47.trans k710).trans (.of_s (same_new (o := .tup [.str z1, .str z2, optV ob, .bl (decide (V.int e = V.int 0))]) htr))
        have hlt : i < N.length := by omega
        have hat : atI (N.map V.str) (0 + (i : Int)) = some (V.str N[i]) := by
          have q := atI_nat (xs := N.map V.str) (j := i) (v := V.str N[i]) (by simp [hlt])
          rwa [show ((i : Nat) : Int) = 0 + (i : Int) by omega] at q
        have hh11 : upd H10 tr (.tup [.str z1, .str z2, optV ob, .bl (decide (V.int e = V.int 0))]) hh = some (.dK kvs) := by
          rw [upd_ne (ne_of_none ((k7.trans k710).at hhp hhc) htr)]
          exact (k7.trans k710).at hhp hhc
        have hkl := (rows_keys hrows).2
        refine ⟨_, rfl, _, rfl, _, rfl, ln, _, _, _, rfl, rfl, SqL.of (kall.at hln hN), hat, hh, _, rfl, DPut.k (k := Sum.inr N[i]) hh11 (by rw [hkl, hri, sizeLine_eq]; omega), ?_⟩
        have hnew : (Sum.inr N[i] : Key) ∉ kvs.map (·.1) := fun q => by
          rw [(rows_keys hrows).1, hrn, hri] at q
          obtain ⟨y, hy, ey⟩ := List.mem_map.mp q
          cases ey
          obtain ⟨j, hj, ej⟩ := List.getElem_of_mem hy
          rw [List.getElem_take] at ej
          rw [List.length_take] at hj
          have nd := hNnd
          rw [List.nodup_iff_pairwise_ne, List.pairwise_iff_getElem] at nd
          exact nd j i (by omega) hlt (by omega) ej
        rw [putK_fresh hnew]
        have pr : Paired (RowOk (upd (upd H10 tr (.tup [.str z1, .str z2, optV ob, .bl (decide (V.int e = V.int 0))])) hh (.dK (kvs ++ [(Sum.inr N[i], .ref tr)])))) (rows ++ [⟨N[i], z1, z2, ob, decide (V.int e = V.int 0)⟩]) (kvs ++ [(Sum.inr N[i], .ref tr)]) := by
          refine rows_upd hh11 (paired_app (rows_new htr (rows_kp (k7.trans k710) pc hrows)) (.cons ⟨rfl, tr, rfl, upd_same⟩ .nil))
        refine ⟨kall.mut fhh3 hhp, (p10.upd (p10.ne htr)).upd hhp, ?_, rows ++ [⟨N[i], z1, z2, ob, decide (V.int e = V.int 0)⟩], _, _, _, by rw [List.length_append, hri]; rfl, upd_same, pr, ?_, ?_, ?_, rfl⟩
        · rw [upd_ne (Ne.symm nhm)]
          rw [upd_ne (ne_of_none ((k7.trans k710).at hmp hmc) htr)]
          exact (k7.trans k710).at hmp hmc
        · rw [List.map_append, hrn, List.length_append, hri]
          show N.take i ++ [N[i]] = N.take (i + 1)
          rw [List.take_succ, List.getElem?_eq_getElem hlt]
          rfl
        · rw [List.length_append, hri]
          show Paired _ _ ((N.drop 6).take (i + 1))
          rw [List.take_succ, List.getElem?_drop]
          rw [hri] at hrb
          refine paired_app hrb ?_
          have hlt2 : 6 + i < N.length := by omega
          rw [List.getElem?_eq_getElem hlt2] at hob ⊢
          exact .cons hob .nil
        · intro r hr
          rcases List.mem_append.mp hr with hr | hr
          · exact hrk r hr
          · rw [List.mem_singleton] at hr
            subst hr
            exact ⟨hz1, hz2⟩
      · rintro σ Hc ⟨kc, pc, hmc, rows, kvs, s6, s7, hri, hhc, hrows, hrn, hrb, hrk, rfl⟩
        exact ⟨kc, pc, hmc, rows, kvs, s6, s7, by omega, hhc, hrows, hrn, hrb, hrk, rfl⟩
    rintro _ H5 ⟨k5, p5, hm5, rows, kvs, s6, s7, hr6, hh5, hrows, hrn, hrb, hrk, rfl⟩
    refine ⟨fun σ Hc => Kp p H3 Hc ∧ PotAt Hc p ∧ Hc hh = some (.dK kvs) ∧ Paired (RowOk Hc) rows kvs ∧ ∃ (gs : List (Str × Str)) (s6 s7 : Option V), gs.length ≤ 3 ∧ Hc hm = some (.dK (kgR gs)) ∧ gs.map (·.1) = (N.drop 12).take gs.length ∧ (∀ q ∈ gs, q.2 ∈ ks) ∧ σ = [some (.ref p), some (.int 6), some (.ref lb), some (.ref ln), some (.ref hh), some (.ref hm), s6, s7], ?_, ?_⟩
    · refine ⟨_, rfl, p, 4, rfl, p5, by decide, by decide, fun H6 n k6 p6 hn0 hn4 => ⟨n, rfl, by omega, by omega, ?_⟩⟩
      refine for_range (lo := 0) (n := n.toNat) (fun i σ Hc => Kp p H3 Hc ∧ PotAt Hc p ∧ Hc hh = some (.dK kvs) ∧ Paired (RowOk Hc) rows kvs ∧ ∃ (gs : List (Str × Str)) (s6 s7 : Option V), gs.length = i ∧ Hc hm = some (.dK (kgR gs)) ∧ gs.map (·.1) = (N.drop 12).take gs.length ∧ (∀ q ∈ gs, q.2 ∈ ks) ∧ σ = [some (.ref p), some (.int 6), some (.ref lb), some (.ref ln), some (.ref hh), some (.ref hm), s6, s7]) ?_ ?_ ?_
      · exact ⟨k5.trans k6, p6, k6.at hhp hh5, rows_kp k6 p5 hrows, [], _, _, rfl, k6.at hmp hm5, by simp, (fun q hq => by cases hq), rfl⟩
      · rintro i σ Hc hi ⟨kc, pc, hhc, hrc, gs, s6, s7, hgi, hmc, hgn, hgk, rfl⟩
        refine ⟨_, rfl, _, rfl, p, lb, _, rfl, pc, kc.at hlb hk3, hlb, kne, (by rw [List.length_map]; omega), fun H8 v1 k8 p8 hv1 => ?_⟩
        obtain ⟨z1, hz1, rfl⟩ := List.mem_map.mp hv1
        have hlt : 12 + i < N.length := by omega
        have hat : atI (N.map V.str) (2 * 6 + (0 + (i : Int))) = some (V.str N[12 + i]) := by
          have q := atI_nat (xs := N.map V.str) (j := 12 + i) (v := V.str N[12 + i]) (by simp [hlt])
          rwa [show ((12 + i : Nat) : Int) = 2 * 6 + (0 + (i : Int)) by omega] at q
        have k38 := kc.trans k8
        have hm8 := k8.at hmp hmc
        have hkl : (kgR gs).length = i := by unfold kgR; rw [List.length_map, hgi]
        refine ⟨_, rfl, _, rfl, _, rfl, _, _, rfl, rfl, (show CMul _ _ from Or.inl ⟨by decide, by decide⟩), _, rfl, _, _, rfl, rfl, ln, _, _, _, rfl, rfl, SqL.of (k38.at hln hN), hat, hm, _, rfl, DPut.k (k := Sum.inr N[12 + i]) hm8 (by rw [hkl, sizeLine_eq]; omega), ?_⟩
        have hkeys : (kgR gs).map (·.1) = (gs.map (·.1)).map Sum.inr := by simp [kgR, Function.comp_def]
        have hnew : (Sum.inr N[12 + i] : Key) ∉ (kgR gs).map (·.1) := fun q => by
          rw [hkeys, hgn, hgi] at q
          obtain ⟨y, hy, ey⟩ := List.mem_map.mp q
          cases ey
          obtain ⟨j, hj, ej⟩ := List.getElem_of_mem hy
          rw [List.getElem_take, List.getElem_drop] at ej
          rw [List.length_take, List.length_drop] at hj
          have nd := hNnd
          rw [List.nodup_iff_pairwise_ne, List.pairwise_iff_getElem] at nd
          exact nd (12 + j) (12 + i) (by omega) hlt (by omega) ej
        rw [putK_fresh hnew]
        refine ⟨k38.mut fhm3 hmp, p8.upd hmp, by rw [upd_ne nhm]; exact k8.at hhp hhc, rows_upd hm8 (rows_kp k8 pc hrc), gs ++ [(N[12 + i], z1)], _, _, by rw [List.length_append, hgi]; rfl, by rw [upd_same]; simp [kgR], ?_, ?_, rfl⟩
        · rw [List.map_append, hgn, List.length_append, hgi]
          show (N.drop 12).take i ++ [N[12 + i]] = (N.drop 12).take (i + 1)
          rw [List.take_succ, List.getElem?_drop, List.getElem?_eq_getElem hlt]
          rfl
        · intro q hq
          rcases List.mem_append.mp hq with hq | hq
          · exact hgk q hq
          · rw [List.mem_singleton] at hq
            subst hq
            exact hz1
      · rintro σ Hc ⟨kc, pc, hhc, hrc, gs, s6, s7, hgi, hmc, hgn, hgk, rfl⟩
        exact ⟨kc, pc, hhc, hrc, gs, s6, s7, by omega, hmc, hgn, hgk, rfl⟩
    rintro _ H6 ⟨k6, p6, hh6, hr6', gs, s6', s7', hg3, hm6, hgn, hgk, rfl⟩
    refine fun sc fsc => ?_
    refine ⟨_, rfl, _, rfl, _, rfl, upd_same, [(Sum.inr "kinds", .ref lb), (Sum.inr "fields", .ref hh), (Sum.inr "flags", .ref hm)], rfl, (by show 3 ≤ 15; decide), ?_⟩
    have scp : sc ≠ p := p6.ne fsc
    have kfin : Same H6 (upd (upd H6 sc (.dK [])) sc (.dK (mergeK [] [(Sum.inr "kinds", .ref lb), (Sum.inr "fields", .ref hh), (Sum.inr "flags", .ref hm)]))) := same_mut (same_new fsc) fsc
    have hsc : upd (upd H6 sc (.dK [])) sc (.dK (mergeK [] [(Sum.inr "kinds", .ref lb), (Sum.inr "fields", .ref hh), (Sum.inr "flags", .ref hm)])) sc = some (.dK [(Sum.inr "kinds", .ref lb), (Sum.inr "fields", .ref hh), (Sum.inr "flags", .ref hm)]) := by
      rw [upd_same]
      rfl
    revert kfin hsc
    generalize upd (upd H6 sc (.dK [])) sc (.dK (mergeK [] [(Sum.inr "kinds", .ref lb), (Sum.inr "fields", .ref hh), (Sum.inr "flags", .ref hm)])) = H7
    intro kfin hsc
    have p7 := p6.same kfin
    have hr7 : Paired (RowOk (hide p H7)) rows kvs := rows_to (fun t xs e => by rw [hide_ne (pot_tup p6 e)]; exact kfin _ _ e) hr6'
    have dr : Drawn ks N rows gs := ⟨k1l, by omega, by omega, hknd, hkn, hNl, hNnd, hNn, hr6, hrn, hrb, hrk, hg3, hgn, hgk⟩
    have sz : ∀ z, Nm 5 z → z.length ≤ 100 := fun z h => by have := h.2.1; omega
    have hN6 : ∀ y ∈ (N.drop 6).take rows.length, y ∈ N := fun y hy => (List.drop_subset _ _) ((List.take_subset _ _) hy)
    refine hQ H7 sc lb hh hm ks N rows gs kvs (((k2.trans k3).trans k6).trans (.of_s kfin)) p7 dr ⟨by rw [hide_ne scp]; exact hsc, by rw [hide_ne hlb]; exact kfin _ _ (k6.at hlb hk3), by rw [hide_ne hhp]; exact kfin _ _ hh6, by rw [hide_ne hmp]; exact kfin _ _ hm6, ⟨?_, ?_, ?_, nf_list, nf_at (by rw [hide_ne hhp]; exact kfin _ _ hh6), nf_at (by rw [hide_ne hmp]; exact kfin _ _ hm6)⟩, dr.due⟩
    · refine .lst (SqL.of (by rw [hide_ne hlb]; exact kfin _ _ (k6.at hlb hk3))) (by rw [List.length_map]; exact Nat.le_trans (show ks.length ≤ 100 by omega) (by decide)) (dp_strs fun z hz => Nat.le_trans (sz z (hkn z hz)) (by decide))
    · refine dp_rows hr7 (by rw [hide_ne hhp]; exact kfin _ _ hh6) (by omega) fun q hq => ⟨sz _ (hNn _ ?_), sz _ (hkn _ (hrk q hq).1), sz _ (hkn _ (hrk q hq).2), fun b hb => sz _ (hNn _ (hN6 b ((filterMap_sub hrb).subset (List.mem_filterMap.mpr ⟨q, hq, hb⟩))))⟩
      exact (List.take_subset rows.length _) (by rw [← hrn]; exact List.mem_map.mpr ⟨q, hq, rfl⟩)
    · refine dp_flags (by rw [hide_ne hmp]; exact kfin _ _ hm6) (by omega) fun q hq => ⟨sz _ (hNn _ ?_), sz _ (hkn _ (hgk q hq))⟩
      exact (List.drop_subset _ _) ((List.take_subset gs.length _) (by rw [← hgn]; exact List.mem_map.mpr ⟨q, hq, rfl⟩))
end

end K17
end
section
set_option Elab.async false
set_option linter.all false
set_option maxRecDepth 100000
set_option maxHeartbeats 4000000
namespace K17
open PySem PySem.Spec PyProof.Rows L2 PySem.EK
/-! data that is small -/
def Good (n m : Nat) (d : PyData) : Prop := d.leavesShort 40 = true ∧ d.showable = true ∧ d.weight ≤ n ∧ d.depth ≤ m
theorem Good.mono {n m n' m' : Nat} {d : PyData} (h : Good n m d) (hn : n ≤ n') (hm : m ≤ m') : Good n' m' d := ⟨h.1, h.2.1, Nat.le_trans h.2.2.1 hn, Nat.le_trans h.2.2.2 hm⟩
theorem good_all {n m : Nat} : ∀ {es : List PyData}, (∀ e ∈ es, Good n m e) → PyData.leavesShortAll 40 es = true ∧ PyData.showableAll es = true ∧ PyData.weightAll es ≤ es.length * (n + 1) ∧ PyData.depthAll es ≤ m
  | [], _ => ⟨rfl, rfl, Nat.zero_le _, Nat.zero_le _⟩
  | e :: es, h => by
    obtain ⟨h1, h2, h3, h4⟩ := h e List.mem_cons_self
    obtain ⟨i1, i2, i3, i4⟩ := good_all fun x hx => h x (List.mem_cons_of_mem _ hx)
    refine ⟨by simp only [PyData.leavesShortAll, h1, i1, Bool.and_self], by simp only [PyData.showableAll, h2, i2, Bool.and_self], ?_, ?_⟩
    · simp only [PyData.weightAll, List.length_cons, Nat.add_mul, Nat.one_mul]
      omega
    · simp only [PyData.depthAll]
      exact Nat.max_le.mpr ⟨h4, i4⟩
theorem good_kv {n n' m : Nat} : ∀ {es : List (PyData × PyData)}, (∀ e ∈ es, Good n m e.1 ∧ Good n' m e.2) → PyData.leavesShortKv 40 es = true ∧ PyData.showableKv es = true ∧ PyData.weightKv es ≤ es.length * (n + n' + 2) ∧ PyData.depthKv es ≤ m
  | [], _ => ⟨rfl, rfl, Nat.zero_le _, Nat.zero_le _⟩
  | (a, b) :: es, h => by
    obtain ⟨⟨h1, h2, h3, h4⟩, g1, g2, g3, g4⟩ := h (a, b) List.mem_cons_self
    obtain ⟨i1, i2, i3, i4⟩ := good_kv fun x hx => h x (List.mem_cons_of_mem _ hx)
    dsimp only at h1 h2 h3 h4 g1 g2 g3 g4
    refine ⟨by simp only [PyData.leavesShortKv, h1, g1, i1, Bool.and_self], by simp only [PyData.showableKv, h2, g2, i2, Bool.and_self], ?_, ?_⟩
    · simp only [PyData.weightKv, List.length_cons, Nat.add_mul, Nat.one_mul]
      omega
    · simp only [PyData.depthKv]
      exact Nat.max_le.mpr ⟨Nat.max_le.mpr ⟨h4, g4⟩, i4⟩
theorem good_list {n m l : Nat} {es : List PyData} (h : ∀ e ∈ es, Good n m e) (hl : es.length ≤ l) : Good (l * (n + 1)) (m + 1) (.list es) := by
  obtain ⟨h1, h2, h3, h4⟩ := good_all h
  refine ⟨by simp only [PyData.leavesShort]; exact h1, by simp only [PyData.showable]; exact h2, ?_, by simp only [PyData.depth]; omega⟩
  simp only [PyData.weight]
  exact Nat.le_trans h3 (Nat.mul_le_mul_right _ hl)
theorem good_tuple {n m l : Nat} {es : List PyData} (h : ∀ e ∈ es, Good n m e) (hl : es.length ≤ l) : Good (l * (n + 1)) (m + 1) (.tuple es) := by
  obtain ⟨h1, h2, h3, h4⟩ := good_all h
  refine ⟨by simp only [PyData.leavesShort]; exact h1, by simp only [PyData.showable]; exact h2, ?_, by simp only [PyData.depth]; omega⟩
  simp only [PyData.weight]
  exact Nat.le_trans h3 (Nat.mul_le_mul_right _ hl)
theorem good_dict {n n' m l : Nat} {es : List (PyData × PyData)} (h : ∀ e ∈ es, Good n m e.1 ∧ Good n' m e.2) (hl : es.length ≤ l) : Good (l * (n + n' + 2)) (m + 1) (.dict es) := by
  obtain ⟨h1, h2, h3, h4⟩ := good_kv h
  refine ⟨by simp only [PyData.leavesShort]; exact h1, by simp only [PyData.showable]; exact h2, ?_, by simp only [PyData.depth]; omega⟩
  simp only [PyData.weight]
  exact Nat.le_trans h3 (Nat.mul_le_mul_right _ hl)
theorem good_shown {n m : Nat} {d : PyData} (h : Good n m d) (hn : n ≤ 100000) (hm : m ≤ 60) : d.showable = true ∧ d.depth ≤ 60 ∧ d.shown.length ≤ sizeLine := by
  refine ⟨h.2.1, Nat.le_trans h.2.2.2 hm, ?_⟩
  have := PyData.shown_le 40 (by decide) d h.1
  have h3 := h.2.2.1
  rw [sizeLine_eq]
  omega
theorem Nm.good {n : Nat} {z : Str} (h : Nm n z) : Good n 0 (.str z) := by
  refine ⟨?_, rfl, ?_, Nat.le_refl _⟩
  · simp only [PyData.leavesShort, List.all_eq_true, decide_eq_true_eq]
    have : ∀ c ∈ LL, c < 16 ^ 8 := by decide +kernel
    exact fun c hc => this c (h.2.2 c hc)
  · simp only [PyData.weight]
    exact h.2.1
theorem good_add {n m : Nat} {x y : Str} (h : Good n 0 (.str x)) (g : Good m 0 (.str y)) : Good (n + m) 0 (.str (x ++ y)) := by
  refine ⟨?_, rfl, ?_, Nat.le_refl _⟩
  · have h1 := h.1
    have g1 := g.1
    simp only [PyData.leavesShort, List.all_eq_true, decide_eq_true_eq] at *
    intro c hc
    rw [tl_add, List.mem_append] at hc
    exact hc.elim (h1 c) (g1 c)
  · have h3 := h.2.2.1
    have g3 := g.2.2.1
    simp only [PyData.weight] at *
    show (x.cps ++ y.cps).size ≤ _
    rw [Array.size_append]
    omega
theorem good_str0 {n m : Nat} {x : Str} (h : Good n m (.str x)) : Good n 0 (.str x) := ⟨h.1, h.2.1, h.2.2.1, Nat.le_refl _⟩
section
variable (P : Program) (w : World) (K : PySem.W.Frag)
/-- a value of small data -/
def G (H : Hp) (n m : Nat) (v : V) : Prop := ∃ d, DpC P w K H v d ∧ NF H v d ∧ Good n m d
end
section
variable {P : Program} {w : World} {K : PySem.W.Frag} {H H' : Hp} {n m n' m' : Nat} {v : V}
theorem G.same (h : G P w K H n m v) (k : Same H H') : G P w K H' n m v := by
  obtain ⟨d, D, nf, g⟩ := h
  exact ⟨d, D.same k, nf.same D k, g⟩
theorem G.mono (h : G P w K H n m v) (hn : n ≤ n') (hm : m ≤ m') : G P w K H n' m' v := by
  obtain ⟨d, D, nf, g⟩ := h
  exact ⟨d, D, nf, g.mono hn hm⟩
theorem g_non : G P w K H n m .non := ⟨.none, .non, (fun _ _ e => nomatch e), rfl, rfl, Nat.zero_le _, Nat.zero_le _⟩
theorem g_bl (b : Bool) : G P w K H n m (.bl b) := ⟨.bool b, .bl b, (fun _ _ e => nomatch e), rfl, rfl, Nat.zero_le _, Nat.zero_le _⟩
theorem g_int {i : Int} (h : Good n 0 (.int i)) : G P w K H n m (.int i) := ⟨.int i, .int i, (fun _ _ e => nomatch e), h.mono (Nat.le_refl _) (Nat.zero_le _)⟩
theorem g_str {x : Str} (h : Good n 0 (.str x)) (hn : n ≤ 1000) : G P w K H n m (.str x) := ⟨.str x, .str x (by
  have := h.2.2.1
  simp only [PyData.weight] at this
  show x.cps.size ≤ _
  have : (1000 : Nat) ≤ big := by decide
  omega), (fun _ _ e => nomatch e), h.mono (Nat.le_refl _) (Nat.zero_le _)⟩
theorem G.strOf {x : Str} (h : G P w K H n m (.str x)) : Good n 0 (.str x) := by
  obtain ⟨d, D, _, g⟩ := h
  cases D
  exact good_str0 g
theorem g_data : ∀ {xs : List V}, (∀ x ∈ xs, G P w K H n m x) → ∃ ds, DpCAll P w K H xs ds ∧ ∀ d ∈ ds, Good n m d
  | [], _ => ⟨[], .nil, fun d hd => by cases hd⟩
  | x :: xs, h => by
    obtain ⟨d, D, _, g⟩ := h x List.mem_cons_self
    obtain ⟨ds, DS, gs⟩ := g_data fun y hy => h y (List.mem_cons_of_mem _ hy)
    refine ⟨d :: ds, .cons D DS, fun e he => ?_⟩
    rcases List.mem_cons.mp he with rfl | he
    · exact g
    · exact gs e he
theorem g_list {a : Addr} {xs : List V} {l : Nat} (ha : SqL K H a xs) (h : ∀ x ∈ xs, G P w K H n m x) (hl : xs.length ≤ l) (hb : l ≤ 1000) : ∃ ds, DpC P w K H (.ref a) (.list ds) ∧ Good (l * (n + 1)) (m + 1) (.list ds) := by
  obtain ⟨ds, DS, gs⟩ := g_data h
  have : (1000 : Nat) ≤ big := by decide
  exact ⟨ds, .lst ha (by omega) DS, good_list gs (by rw [← DS.length]; exact hl)⟩
theorem g_tup {a : Addr} {xs : List V} {l : Nat} (ha : SqT K H a xs) (h : ∀ x ∈ xs, G P w K H n m x) (hl : xs.length ≤ l) (hb : l ≤ 1000) : ∃ ds, DpC P w K H (.ref a) (.tuple ds) ∧ (∀ d ∈ ds, Good n m d) ∧ Good (l * (n + 1)) (m + 1) (.tuple ds) := by
  obtain ⟨ds, DS, gs⟩ := g_data h
  have : (1000 : Nat) ≤ big := by decide
  exact ⟨ds, .tup ha (by omega) DS, gs, good_tuple gs (by rw [← DS.length]; exact hl)⟩
theorem g_dict {a : Addr} {es : List (MK × V)} {l : Nat} (ha : DictC P w H a es) (hk : ∀ e ∈ es, KeyOk K H e.1 ∧ Good n m e.1.d) {F : PyData → Prop} (hv : ∀ e ∈ es, ∃ d, DpC P w K H e.2 d ∧ Good n' m d ∧ F d) (hl : es.length ≤ l) (hb : l ≤ 1000) :
    ∃ ds, DpC P w K H (.ref a) (.dict ds) ∧ ds.length = es.length ∧ (∀ p ∈ ds, Good n m p.1 ∧ Good n' m p.2 ∧ F p.2) ∧ Good (l * (n + n' + 2)) (m + 1) (.dict ds) := by
  have hbig : (1000 : Nat) ≤ big := by decide
  have go : ∀ es : List (MK × V), (∀ e ∈ es, KeyOk K H e.1 ∧ Good n m e.1.d) → (∀ e ∈ es, ∃ d, DpC P w K H e.2 d ∧ Good n' m d ∧ F d) → ∃ ds : List (PyData × PyData), ds.map (·.1) = es.map (·.1.d) ∧ DpCAll P w K H (es.map (·.2)) (ds.map (·.2)) ∧ ∀ p ∈ ds, Good n m p.1 ∧ Good n' m p.2 ∧ F p.2 := by
    intro es
    induction es with
    | nil => intro _ _; exact ⟨[], rfl, .nil, fun p hp => by cases hp⟩
    | cons e es ih =>
      intro hk hv
      obtain ⟨ds, h1, h2, h3⟩ := ih (fun x hx => hk x (List.mem_cons_of_mem _ hx)) fun x hx => hv x (List.mem_cons_of_mem _ hx)
      obtain ⟨d, D, g, f⟩ := hv e List.mem_cons_self
      refine ⟨(e.1.d, d) :: ds, by rw [List.map_cons, List.map_cons, h1], .cons D h2, fun p hp => ?_⟩
      rcases List.mem_cons.mp hp with rfl | hp
      · exact ⟨(hk e List.mem_cons_self).2, g, f⟩
      · exact h3 p hp
  obtain ⟨ds, h1, h2, h3⟩ := go es hk hv
  have hlen : ds.length = es.length := by have := congrArg List.length h1; simpa using this
  exact ⟨ds, .dct ha (by omega) (fun p hp => (hk p hp).1) h1 h2, hlen, h3, good_dict (fun e he => ⟨(h3 e he).1, (h3 e he).2.1⟩) (by omega)⟩
end
end K17
end
section
set_option Elab.async false
set_option linter.all false
set_option maxRecDepth 100000
set_option maxHeartbeats 4000000
namespace K17
open PySem PySem.Spec PyProof.Rows L2 PySem.EK

abbrev s__law_odd : Stmt := top 35
abbrev s__law_field_spoilt : Stmt := top 36
theorem good_c {n : Nat} {x : Str} (h : (PyData.str x).leavesShort 40 = true ∧ x.cps.size ≤ n) : Good n 0 (.str x) := ⟨h.1, rfl, by simp only [PyData.weight]; exact h.2, Nat.le_refl _⟩
theorem good_i {n : Nat} {i : Int} (h : (PyData.int i).leavesShort 40 = true ∧ (PyData.int i).showable = true ∧ (PyData.int i).weight ≤ n) : Good n 0 (.int i) := ⟨h.1, h.2.1, h.2.2, Nat.zero_le _⟩
/-- what is new -/
def sub (p : Addr) (H H' : Hp) : Hp := fun b => if H b = none then hide p H' b else none
theorem sub_le {p : Addr} {H H' : Hp} : Same (sub p H H') (hide p H') := fun b o e => by
  unfold sub at e
  split at e
  · exact e
  · cases e
theorem sub_at {p b : Addr} {H H' : Hp} (h : H b = none) (hb : b ≠ p) : sub p H H' b = H' b := by
  unfold sub
  rw [if_pos h, hide_ne hb]
theorem sub_off {p b l : Addr} {H H' : Hp} (hl : H l ≠ none) : sub p H H' l = none := if_neg hl
def spOdd (P : Program) (w : World) (K : PySem.W.Frag) : Sp := fun vs H Q _ => ∃ p : Addr, vs = [.ref p] ∧ PotAt H p ∧ ∀ H' v, Kp p H H' → PotAt H' p → G P w K (sub p H H') 10 3 v → Q v H'
section
variable {P : Program} {w : World} {K : PySem.W.Frag} {mg : Str → Option Value} {base : Heap}
theorem g_tupA {H : Hp} {a : Addr} {xs : List V} {l n m : Nat} (ha : SqT K H a xs) (h : ∀ x ∈ xs, G P w K H n m x) (hl : xs.length ≤ l) (hb : l ≤ 1000) : G P w K H (l * (n + 1)) (m + 1) (.ref a) := by
  obtain ⟨ds, D, _, g⟩ := g_tup ha h hl hb
  exact ⟨_, D, nf_tup, g⟩
theorem g_listA {H : Hp} {a : Addr} {xs : List V} {l n m : Nat} (ha : SqL K H a xs) (h : ∀ x ∈ xs, G P w K H n m x) (hl : xs.length ≤ l) (hb : l ≤ 1000) : G P w K H (l * (n + 1)) (m + 1) (.ref a) := by
  obtain ⟨ds, D, g⟩ := g_list ha h hl hb
  exact ⟨_, D, nf_list, g⟩
theorem g_dict0 {H : Hp} {a : Addr} {n m : Nat} (ha : H a = some (.dK [])) : G P w K H n (m + 1) (.ref a) :=
  ⟨.dict [], .dct (es := []) (.inl ⟨[], .inl ha, rfl⟩) (Nat.zero_le _) (fun p hp => by cases hp) rfl .nil, nf_at ha, rfl, rfl, Nat.zero_le _, by show 0 + 1 ≤ m + 1; omega⟩
theorem sc__law_odd : FnScope ["_law_pot_here"] ["_law_pot_here"] (defScope s__law_odd) := ⟨rfl, rfl, rfl, by decide +kernel, rfl, by decide +kernel, by decide +kernel⟩
theorem c__law_odd (h : Def K mg "_law_odd" s__law_odd) (C__law_pick : Cal P w K mg base CX0 2 "_law_pick" ["_law_pot_here", "_law_some"] spPickP) :
    Cal P w K mg base CX0 3 "_law_odd" ["_law_pot_here"] (spOdd P w K) := by
  refine cal_of h sc__law_odd (fun vs H Q E h => ?_) (fun _ _ _ _ _ _ us hl => match us, hl with | [_], _ => rfl) (fun f cdv A outer s H vs Q E hr h => ?_)
  · obtain ⟨p, rfl, _⟩ := h
    rfl
  · obtain ⟨p, rfl, hp, hQ⟩ := h
    refine ⟨_, PSs.nox (pss_one (ps_ret (pe_c C__law_pick hr pass0 (pa_cons (pv 0) (pa_cons (pe_lst (pa_cons pe_non (pa_cons pe_bl (pa_cons pe_bl (pa_cons pe_int (pa_cons pe_int (pa_cons pe_str (pa_cons pe_str (pa_cons pe_str (pa_cons pe_str (pa_cons pe_str (pa_cons (pe_tup pa_nil) (pa_cons (pe_tup (pa_cons pe_str pa_nil)) (pa_cons (pe_lst pa_nil) (pa_cons (pe_lst (pa_cons pe_str pa_nil)) (pa_cons pe_dnewK (pa_cons pe_str pa_nil))))))))))))))))) pa_nil))))), ?_⟩
    refine ⟨_, rfl, (by show 0 ≤ sizeLine; decide), fun t0 ht0 => ?_⟩
    have k0 := same_new (o := .tup []) ht0
    have e0 : upd H t0 (.tup []) t0 = some (.tup []) := upd_same
    have n0 := hp.ne ht0
    revert k0 e0
    generalize upd H t0 (.tup []) = H0
    intro k0 e0
    have hp0 := hp.same k0
    refine ⟨(by show 1 ≤ sizeLine; decide), fun t1 ht1 => ?_⟩
    have k1' := same_new (o := .tup [.str "a"]) ht1
    have e1 : upd H0 t1 (.tup [.str "a"]) t1 = some (.tup [.str "a"]) := upd_same
    have n1 := hp0.ne ht1
    revert k1' e1
    generalize upd H0 t1 (.tup [V.str "a"]) = H1
    intro k1' e1
    have hp1 := hp0.same k1'
    refine ⟨(by show 0 ≤ sizeLine; decide), fun t2 ht2 => ?_⟩
    have k2' := same_new (o := .lst []) ht2
    have e2 : upd H1 t2 (.lst []) t2 = some (.lst []) := upd_same
    have n2 := hp1.ne ht2
    revert k2' e2
    generalize upd H1 t2 (.lst []) = H2
    intro k2' e2
    have hp2 := hp1.same k2'
    refine ⟨(by show 1 ≤ sizeLine; decide), fun t3 ht3 => ?_⟩
    have k3' := same_new (o := .lst [.str "a"]) ht3
    have e3 : upd H2 t3 (.lst [.str "a"]) t3 = some (.lst [.str "a"]) := upd_same
    have n3 := hp2.ne ht3
    revert k3' e3
    generalize upd H2 t3 (.lst [V.str "a"]) = H3
    intro k3' e3
    have hp3 := hp2.same k3'
    intro t4 ht4
    have k4' := same_new (o := .dK []) ht4
    have e4 : upd H3 t4 (.dK []) t4 = some (.dK []) := upd_same
    have n4 := hp3.ne ht4
    revert k4' e4
    generalize upd H3 t4 (.dK []) = H4
    intro k4' e4
    have hp4 := hp3.same k4'
    refine ⟨(by show 16 ≤ sizeLine; decide), fun l hl => ?_⟩
    have kl := same_new (o := .lst [.non, .bl true, .bl false, .int 0, .int 1, .str "", .str "A", .str "a1", .str "a b", .str "abcdefghi", .ref t0, .ref t1, .ref t2, .ref t3, .ref t4, .str "Ab"]) hl
    refine ⟨p, l, _, rfl, hp4.same kl, upd_same, hp4.ne hl, (fun e => by cases e), (by show 16 < 1000000; decide), fun H' v k' p' hv => ?_⟩
    have kall : Kp p H H' := (Kp.of_s ((((k0.trans k1').trans k2').trans k3').trans k4' |>.trans kl)).trans k'
    have k0' : Kp p H0 H' := (Kp.of_s (((k1'.trans k2').trans k3').trans k4' |>.trans kl)).trans k'
    have k1'' : Kp p H1 H' := (Kp.of_s ((k2'.trans k3').trans k4' |>.trans kl)).trans k'
    have k2'' : Kp p H2 H' := (Kp.of_s ((k3'.trans k4').trans kl)).trans k'
    have k3'' : Kp p H3 H' := (Kp.of_s (k4'.trans kl)).trans k'
    have k4'' : Kp p H4 H' := (Kp.of_s kl).trans k'
    have q1 := k0.free ht1
    have q2 := (k0.trans k1').free ht2
    have q3 := ((k0.trans k1').trans k2').free ht3
    have q4 := (((k0.trans k1').trans k2').trans k3').free ht4
    have f0 : sub p H H' t0 = some (.tup []) := by rw [sub_at ht0 n0]; exact k0'.at n0 e0
    have f1 : sub p H H' t1 = some (.tup [.str "a"]) := by rw [sub_at q1 n1]; exact k1''.at n1 e1
    have f2 : sub p H H' t2 = some (.lst []) := by rw [sub_at q2 n2]; exact k2''.at n2 e2
    have f3 : sub p H H' t3 = some (.lst [.str "a"]) := by rw [sub_at q3 n3]; exact k3''.at n3 e3
    have f4 : sub p H H' t4 = some (.dK []) := by rw [sub_at q4 n4]; exact k4''.at n4 e4
    refine hQ H' v kall p' ?_
    have ga : ∀ x ∈ [V.str "a"], G P w K (sub p H H') 1 0 x := fun x hx => by
      rw [List.mem_singleton] at hx
      subst hx
      exact g_str (good_c (by decide +kernel)) (by decide)
    simp only [List.mem_cons, List.not_mem_nil, or_false] at hv
    rcases hv with rfl | rfl | rfl | rfl | rfl | rfl | rfl | rfl | rfl | rfl | rfl | rfl | rfl | rfl | rfl | rfl
    · exact g_non
    · exact g_bl _
    · exact g_bl _
    · exact g_int (good_i (by decide +kernel))
    · exact g_int (good_i (by decide +kernel))
    · exact g_str (good_c (by decide +kernel)) (by decide)
    · exact g_str (good_c (by decide +kernel)) (by decide)
    · exact g_str (good_c (by decide +kernel)) (by decide)
    · exact g_str (good_c (by decide +kernel)) (by decide)
    · exact g_str (good_c (by decide +kernel)) (by decide)
    · exact (g_tupA (n := 1) (m := 0) (l := 0) (SqT.of f0) (fun x hx => by cases hx) (Nat.le_refl _) (by decide)).mono (by decide) (by decide)
    · exact (g_tupA (l := 1) (SqT.of f1) ga (Nat.le_refl _) (by decide)).mono (by decide) (by decide)
    · exact (g_listA (n := 1) (m := 0) (l := 0) (SqL.of f2) (fun x hx => by cases hx) (Nat.le_refl _) (by decide)).mono (by decide) (by decide)
    · exact (g_listA (l := 1) (SqL.of f3) ga (Nat.le_refl _) (by decide)).mono (by decide) (by decide)
    · exact (g_dict0 (n := 10) (m := 0) f4).mono (by decide) (by decide)
    · exact g_str (good_c (by decide +kernel)) (by decide)
end

end K17
end
section
set_option Elab.async false
set_option linter.all false
set_option maxRecDepth 100000
set_option maxHeartbeats 4000000
namespace K17
open PySem PySem.Spec PyProof.Rows L2 PySem.EK

section
variable (P : Program) (w : World) (K : PySem.W.Frag)
/-- what a field's row may be -/
def RV (H : Hp) (n : Nat) (v : V) : Prop := ∃ d, DpC P w K H v d ∧ NF H v d ∧ Good 200 5 d ∧ ∀ es, d = .tuple es → ∀ e ∈ es, Good n 3 e
end
def spFSp (P : Program) (w : World) (K : PySem.W.Frag) : Sp := fun vs H Q _ => ∃ (p row nm : Addr) (n : Nat) (z0 : Str) (y1 y2 y3 : V) (ns : List V), vs = [.ref p, .ref row, .ref nm] ∧ PotAt H p ∧ 10 ≤ n ∧ n ≤ 13 ∧ SqT K (hide p H) row [.str z0, y1, y2, y3] ∧ (∀ x ∈ [V.str z0, y1, y2, y3], G P w K (hide p H) n 3 x) ∧
  hide p H nm = some (.lst ns) ∧ ns.length ≤ 50 ∧ (∀ x ∈ ns, G P w K (hide p H) n 3 x) ∧ ∀ H' v, Kp p H H' → PotAt H' p → RV P w K (hide p H') (n + 1) v → Q v H'
section
variable {P : Program} {w : World} {K : PySem.W.Frag} {mg : Str → Option Value} {base : Heap}
theorem rv_g {H : Hp} {n m : Nat} {v : V} (h : G P w K H n m v) (hn : n ≤ 200) (hm : m ≤ 5) (ht : ∀ d, DpC P w K H v d → isT "tuple" d = false) : RV P w K H n v := by
  obtain ⟨d, D, nf, g⟩ := h
  refine ⟨d, D, nf, g.mono hn hm, fun es e => ?_⟩
  have := ht d D
  rw [e] at this
  cases this
theorem rv_tup {H : Hp} {n l : Nat} {a : Addr} {xs : List V} (ha : SqT K H a xs) (h : ∀ x ∈ xs, G P w K H n 3 x) (hl : xs.length ≤ l) (hb : l * (n + 1) ≤ 200) (hn : l ≤ 1000) : RV P w K H n (.ref a) := by
  obtain ⟨ds, D, gs, g⟩ := g_tup ha h hl hn
  refine ⟨_, D, nf_tup, g.mono hb (by decide), fun es e => ?_⟩
  cases e
  exact gs
theorem sc__law_field_spoilt : FnScope ["_law_pot_here", "_law_row", "_law_names", "_law_way", "_law_made"] ["_law_pot_here", "_law_row", "_law_names"] (defScope s__law_field_spoilt) := ⟨rfl, rfl, rfl, by decide +kernel, rfl, by decide +kernel, by decide +kernel⟩
theorem c__law_field_spoilt (h : Def K mg "_law_field_spoilt" s__law_field_spoilt) (B : Bl mg) (C__law_draw : Cal P w K mg base CX0 1 "_law_draw" ["_law_pot_here", "_law_many"] spDrawP) (C__law_pick : Cal P w K mg base CX0 2 "_law_pick" ["_law_pot_here", "_law_some"] spPickP)
    (C__law_odd : Cal P w K mg base CX0 3 "_law_odd" ["_law_pot_here"] (spOdd P w K)) :
    Cal P w K mg base CX0 4 "_law_field_spoilt" ["_law_pot_here", "_law_row", "_law_names"] (spFSp P w K) := by
  refine cal_of h sc__law_field_spoilt (fun vs H Q E h => ?_) (fun _ _ _ _ _ _ us hl => match us, hl with | [_, _, _], _ => rfl) (fun f cdv A outer s H vs Q E hr h => ?_)
  · obtain ⟨p, row, nm, n, z0, y1, y2, y3, ns, rfl, _⟩ := h
    rfl
  · obtain ⟨p, row, nm, n, z0, y1, y2, y3, ns, rfl, hp, hn0, hn1, hrow, grow, hnm, hnl, gns, hQ⟩ := h
    have nmp : nm ≠ p := fun e => by rw [e, hide_at] at hnm; cases hnm
    rw [hide_ne nmp] at hnm
    refine ⟨_, PSs.nox (pss_cons (ps_par (i := 3) (j := 4) (by rfl) sc__law_field_spoilt.nd rfl rfl (by decide) rfl rfl (pa_cons (pe_c C__law_draw hr pass0 (pa_cons (pv 0) (pa_cons pe_int pa_nil))) (pa_cons (pe_callTy call_list_of (by rfl) B.list (by decide +kernel) (pa_cons (pv 1) pa_nil)) pa_nil)) (by rfl))
      (pss_cons (ps_if (pt_cmpR op_eq (pv 3) pe_int (nomark _)) (pss_one (ps_ret (pe_c C__law_pick hr pass0 (pa_cons (pv 0) (pa_cons (pe_lst (pa_cons pe_non (pa_cons (pv 4) (pa_cons (pe_tup pa_nil) (pa_cons (pe_slice sl_tup (pv 1) po_none (po_some pe_int)) (pa_cons (pe_op op_catT (pv 1) (pe_tup (pa_cons pe_int pa_nil))) (pa_cons pe_str (pa_cons (pe_ix ix_tup (pv 1) pe_int (fun _ _ => rfl)) pa_nil)))))))) pa_nil))))) pss_nil)
      (C8.pss_cut (ps_if (pt_cmpR op_lt (pv 3) pe_int (nomark _)) (pss_one (ps_asg (pe_c C__law_pick hr pass0 (pa_cons (pv 0) (pa_cons (pe_lst (pa_cons (pe_c C__law_odd hr pass0 (pa_cons (pv 0) pa_nil)) (pa_cons pe_str (pa_cons (pe_op op_add_str (pe_ix ix_tup (pv 1) pe_int (fun _ _ => rfl)) pe_str) pa_nil)))) pa_nil))) (pg_sub (pv 4) (pe_op op_sub (pv 3) pe_int) set_list))) (pss_one (ps_if (pt_cmpR op_eq (pv 3) pe_int (nomark _)) (pss_one (ps_asg (pe_c C__law_pick hr pass0 (pa_cons (pv 0) (pa_cons (pe_lst (pa_cons pe_int (pa_cons pe_int (pa_cons pe_non (pa_cons pe_str (pa_cons pe_str (pa_cons (pe_tup pa_nil) (pa_cons pe_int pa_nil)))))))) pa_nil))) (pg_sub (pv 4) pe_int set_list))) (pss_one (ps_asg (pe_c C__law_pick hr pass0 (pa_cons (pv 0) (pa_cons (pe_op op_cat (pe_op op_cat (pe_lst (pa_cons (pe_c C__law_odd hr pass0 (pa_cons (pv 0) pa_nil)) pa_nil)) (pv 2)) (pv 2)) pa_nil))) (pg_sub (pv 4) pe_int set_list))))))
      (pss_one (ps_ret (pe_callTy call_tuple_of (by rfl) B.tuple (by decide +kernel) (pa_cons (pv 4) pa_nil))))))), ?_⟩
    refine ⟨_, rfl, p, 7, rfl, hp, by decide, by decide, fun H1 wy k1 p1 hw0 hw7 => ?_⟩
    have row1 : ∀ {Hx : Hp}, Kp p H Hx → SqT K Hx row [.str z0, y1, y2, y3] := fun k => sqT_same (Same.trans k hide_le) hrow
    refine ⟨_, rfl, row, _, rfl, .inr (row1 k1), fun lm hlm => ⟨_, _, rfl, ?_⟩⟩
    have s2 := same_new (o := .lst [.str z0, y1, y2, y3]) hlm
    have lmp := p1.ne hlm
    have hlm2 : upd H1 lm (.lst [.str z0, y1, y2, y3]) lm = some (.lst [.str z0, y1, y2, y3]) := upd_same
    have flm : hide p H lm = none := k1.free (hide_upd hlm)
    revert s2 hlm2
    generalize upd H1 lm (.lst [V.str z0, y1, y2, y3]) = H2
    intro s2 hlm2
    have p2 := p1.same s2
    have k2 : Kp p H H2 := k1.trans (.of_s s2)
    refine ⟨_, rfl, rfl, _, rfl, ?_⟩
    by_cases h0 : wy = 0
    · subst h0
      refine iteT ?_
      refine ⟨_, rfl, _, rfl, (by show 0 ≤ sizeLine; decide), fun t0 ht0 => ?_⟩
      have s3 := same_new (o := .tup []) ht0
      have e0 : upd H2 t0 (.tup []) t0 = some (.tup []) := upd_same
      have n0 := p2.ne ht0
      revert s3 e0
      generalize upd H2 t0 (.tup []) = H3
      intro s3 e0
      have p3 := p2.same s3
      have k3 := k2.trans (.of_s s3)
      refine ⟨_, rfl, _, rfl, row, _, rfl, row1 k3, (by show ¬ (HT.sIx 4 0 none = 0 ∧ HT.sIx 4 4 (some 3) = 4); decide), fun t1 ht1 => ?_⟩
      rw [show cutV [V.str z0, y1, y2, y3] none (some 3) = [V.str z0, y1, y2] from rfl]
      have s4 := same_new (o := .tup [.str z0, y1, y2]) ht1
      have e1 : upd H3 t1 (.tup [.str z0, y1, y2]) t1 = some (.tup [.str z0, y1, y2]) := upd_same
      have n1 := p3.ne ht1
      revert s4 e1
      generalize upd H3 t1 (.tup [V.str z0, y1, y2]) = H4
      intro s4 e1
      have p4 := p3.same s4
      have k4 := k3.trans (.of_s s4)
      refine ⟨_, rfl, (by show 1 ≤ sizeLine; decide), fun t2 ht2 => ?_⟩
      have s5 := same_new (o := .tup [.int 0]) ht2
      have e2 : upd H4 t2 (.tup [.int 0]) t2 = some (.tup [.int 0]) := upd_same
      revert s5 e2
      generalize upd H4 t2 (.tup [V.int 0]) = H5
      intro s5 e2
      have p5 := p4.same s5
      have k5 := k4.trans (.of_s s5)
      refine ⟨row, t2, _, _, rfl, rfl, row1 k5, SqT.of e2, (fun z => by cases z), (by show 5 ≤ sizeLine; decide), (fun z => by cases z), fun _ t3 ht3 => ?_⟩
      have s6 := same_new (o := .tup ([.str z0, y1, y2, y3] ++ [.int 0])) ht3
      have e3 : upd H5 t3 (.tup ([.str z0, y1, y2, y3] ++ [.int 0])) t3 = some (.tup [.str z0, y1, y2, y3, .int 0]) := upd_same
      have n3 := p5.ne ht3
      revert s6 e3
      generalize upd H5 t3 (.tup ([V.str z0, y1, y2, y3] ++ [.int 0])) = H6
      intro s6 e3
      have p6 := p5.same s6
      have k6 := k5.trans (.of_s s6)
      refine ⟨_, rfl, row, _, _, _, rfl, rfl, row1 k6, rfl, (by show 7 ≤ sizeLine; decide), fun l hl => ?_⟩
      have sl := same_new (o := .lst [.non, .ref lm, .ref t0, .ref t1, .ref t3, .str "abcd", .str z0]) hl
      refine ⟨p, l, _, rfl, p6.same sl, upd_same, p6.ne hl, (fun e => by cases e), (by show 7 < 1000000; decide), fun H' v k' p' hv => ?_⟩
      have kall := (k6.trans (.of_s sl)).trans k'
      have f0 : hide p H' lm = some (.lst [.str z0, y1, y2, y3]) := by rw [hide_ne lmp]; exact ((Kp.of_s ((((s3.trans s4).trans s5).trans s6).trans sl)).trans k').at lmp hlm2
      have f1 : hide p H' t0 = some (.tup []) := by rw [hide_ne n0]; exact ((Kp.of_s (((s4.trans s5).trans s6).trans sl)).trans k').at n0 e0
      have f2 : hide p H' t1 = some (.tup [.str z0, y1, y2]) := by rw [hide_ne n1]; exact ((Kp.of_s ((s5.trans s6).trans sl)).trans k').at n1 e1
      have f3 : hide p H' t3 = some (.tup [.str z0, y1, y2, y3, .int 0]) := by rw [hide_ne n3]; exact ((Kp.of_s sl).trans k').at n3 e3
      have gr : ∀ x ∈ [V.str z0, y1, y2, y3], G P w K (hide p H') (n + 1) 3 x := fun x hx => ((grow x hx).same kall).mono (by omega) (Nat.le_refl _)
      refine hQ H' v kall p' ?_
      simp only [List.mem_cons, List.not_mem_nil, or_false] at hv
      rcases hv with rfl | rfl | rfl | rfl | rfl | rfl | rfl
      · exact rv_g g_non (by omega) (by decide : 0 ≤ 5) fun d D => by cases D; rfl
      · obtain ⟨ds, D, g⟩ := g_list (l := 4) (SqL.of f0) gr (by show 4 ≤ 4; decide) (by decide)
        exact ⟨_, D, nf_list, g.mono (by omega) (by decide), fun es e => nomatch e⟩
      · exact rv_tup (l := 0) (SqT.of f1) (fun x hx => by cases hx) (Nat.le_refl _) (by omega) (by decide)
      · exact rv_tup (l := 3) (SqT.of f2) (fun x hx => gr x (by simp only [List.mem_cons, List.not_mem_nil, or_false] at hx ⊢; rcases hx with h | h | h <;> simp [h])) (by show 3 ≤ 3; decide) (by omega) (by decide)
      · exact rv_tup (l := 5) (SqT.of f3) (fun x hx => by
          rcases List.mem_append.mp (show x ∈ [V.str z0, y1, y2, y3] ++ [V.int 0] from hx) with hx | hx
          · exact gr x hx
          · rw [List.mem_singleton] at hx
            subst hx
            exact (g_int (n := 1) (good_i (by decide +kernel))).mono (by omega) (Nat.le_refl _)) (by show 5 ≤ 5; decide) (by omega) (by decide)
      · exact rv_g ((g_str (n := 10) (m := 0) (good_c (by decide +kernel)) (by decide)).mono (by omega) (Nat.le_refl _)) (by omega) (by decide) fun d D => by cases D; rfl
      · exact rv_g (gr _ (by simp)) (by omega) (by decide) fun d D => by cases D; rfl
    · rw [show decide (V.int wy = V.int 0) = false by simp [h0]]
      refine iteF ?_
      refine ⟨fun σ Hc => Kp p H Hc ∧ PotAt Hc p ∧ ∃ x0 x1 x2 x3, Hc lm = some (.lst [x0, x1, x2, x3]) ∧ (∀ x ∈ [x0, x1, x2, x3], G P w K (hide p Hc) (n + 1) 3 x) ∧ σ = [some (.ref p), some (.ref row), some (.ref nm), some (.int wy), some (.ref lm)], ?_, ?_⟩
      · refine ⟨_, rfl, _, _, rfl, rfl, _, rfl, ?_⟩
        have put : ∀ (j : Nat) (i : Int) (u : V) (Hx : Hp), j < 4 → ixN 4 i = some j → Kp p H2 Hx → PotAt Hx p → G P w K (hide lm (hide p Hx)) (n + 1) 3 u → ∃ q xs k' j', V.ref lm = .ref q ∧ V.int i = .int k' ∧ Hx q = some (.lst xs) ∧ ixN xs.length k' = some j' ∧
            (Kp p H (upd Hx q (.lst (xs.set j' u))) ∧ PotAt (upd Hx q (.lst (xs.set j' u))) p ∧ ∃ x0 x1 x2 x3, upd Hx q (.lst (xs.set j' u)) lm = some (.lst [x0, x1, x2, x3]) ∧ (∀ x ∈ [x0, x1, x2, x3], G P w K (hide p (upd Hx q (.lst (xs.set j' u)))) (n + 1) 3 x) ∧ [some (V.ref p), some (.ref row), some (.ref nm), some (.int wy), some (.ref lm)] = [some (V.ref p), some (.ref row), some (.ref nm), some (.int wy), some (.ref lm)]) := by
          intro j i u Hx hj hi kx px gu
          refine ⟨lm, _, i, j, rfl, rfl, kx.at lmp hlm2, hi, ?_⟩
          have kk : Kp p H (upd Hx lm (.lst ([V.str z0, y1, y2, y3].set j u))) := (k2.trans kx).mut flm lmp
          have hne : ∀ {b : Addr} {o : HO}, hide p H b = some o → b ≠ lm := fun e => ne_of_none e flm
          have gold : ∀ x ∈ [V.str z0, y1, y2, y3], G P w K (hide p (upd Hx lm (.lst ([V.str z0, y1, y2, y3].set j u)))) (n + 1) 3 x := fun x hx => ((grow x hx).same kk).mono (by omega) (Nat.le_refl _)
          have gnew : G P w K (hide p (upd Hx lm (.lst ([V.str z0, y1, y2, y3].set j u)))) (n + 1) 3 u := gu.same fun b o e => by
            have hb : b ≠ lm := fun q => by rw [q, hide_at] at e; cases e
            rw [hide_ne hb] at e
            have hbp : b ≠ p := fun q => by rw [q, hide_at] at e; cases e
            rw [hide_ne hbp] at e ⊢
            rw [upd_ne hb]
            exact e
          have gall : ∀ x ∈ [V.str z0, y1, y2, y3].set j u, G P w K (hide p (upd Hx lm (.lst ([V.str z0, y1, y2, y3].set j u)))) (n + 1) 3 x := fun x hx => by
            rcases List.mem_or_eq_of_mem_set hx with h | h
            · exact gold x h
            · rw [h]; exact gnew
          refine ⟨kk, px.upd lmp, ?_⟩
          match j, hj with
          | 0, _ => exact ⟨_, _, _, _, upd_same, gall, rfl⟩
          | 1, _ => exact ⟨_, _, _, _, upd_same, gall, rfl⟩
          | 2, _ => exact ⟨_, _, _, _, upd_same, gall, rfl⟩
          | 3, _ => exact ⟨_, _, _, _, upd_same, gall, rfl⟩
        have glm : ∀ {Hx : Hp} {x : V} {a b : Nat}, Kp p H Hx → G P w K (hide p H) a b x → G P w K (hide lm (hide p Hx)) a b x := fun kx g => g.same fun b o e => by
          have hb : b ≠ lm := ne_of_none e flm
          rw [hide_ne hb]
          exact kx b o e
        have godd : ∀ {Hb Hx : Hp} {x : V} {a b : Nat}, Hb lm ≠ none → Kp p Hx Hx → ∀ {Hy : Hp}, Kp p Hx Hy → G P w K (sub p Hb Hx) a b x → G P w K (hide lm (hide p Hy)) a b x := fun hl _ Hy ky g => g.same fun b o e => by
          have hb : b ≠ lm := fun q => by rw [q] at e; rw [sub_off (b := lm) hl] at e; cases e
          rw [hide_ne hb]
          exact ky b o (sub_le b o e)
        by_cases h3 : wy < 3
        · rw [decide_eq_true h3]
          refine iteT ?_
          refine ⟨_, rfl, _, rfl, p, rfl, p2, fun H3 v k3 p3 gv => ?_⟩
          have gz0 : Good n 0 (.str z0) := (grow _ (by simp)).strOf
          have hz0 : z0.length ≤ n := by have := gz0.2.2.1; simp only [PyData.weight] at this; exact this
          have hx1 : ("x" : Str).length = 1 := by decide +kernel
          refine ⟨_, rfl, row, _, _, _, rfl, rfl, row1 (k2.trans k3), rfl, z0, ("x" : Str), rfl, rfl, (by rw [hx1, sizeLine_eq]; omega), (by show 3 ≤ sizeLine; decide), fun l hl => ?_⟩
          have sl := same_new (o := .lst [v, .str "zz", .str (z0 ++ ("x" : Str))]) hl
          refine ⟨p, l, _, rfl, p3.same sl, upd_same, p3.ne hl, (fun e => by cases e), (by show 3 < 1000000; decide), fun H4 u k4 p4 hu => ?_⟩
          have k34 : Kp p H3 H4 := (Kp.of_s sl).trans k4
          have gu : G P w K (hide lm (hide p H4)) (n + 1) 3 u := by
            simp only [List.mem_cons, List.not_mem_nil, or_false] at hu
            rcases hu with rfl | rfl | rfl
            · exact (godd (by rw [hlm2]; simp) (.refl _ _) k34 gv).mono (by omega) (Nat.le_refl _)
            · exact (g_str (n := 2) (m := 0) (good_c (by decide +kernel)) (by decide)).mono (by omega) (by decide)
            · exact (g_str (n := n + 1) (m := 0) (good_add gz0 (good_c (by decide +kernel))) (by omega)).mono (by omega) (by decide)
          have hw : wy = 1 ∨ wy = 2 := by omega
          refine ⟨_, rfl, _, rfl, _, _, rfl, rfl, ?_⟩
          rcases hw with rfl | rfl
          · exact put 0 _ u H4 (by decide) rfl (k3.trans k34) p4 gu
          · exact put 1 _ u H4 (by decide) rfl (k3.trans k34) p4 gu
        · rw [decide_eq_false h3]
          refine iteF ⟨_, rfl, rfl, _, rfl, ?_⟩
          by_cases h4 : wy = 3
          · rw [show decide (V.int wy = V.int 3) = true by simp [h4]]
            refine iteT ⟨_, rfl, (by show 0 ≤ sizeLine; decide), fun t0 ht0 => ?_⟩
            have s3 := same_new (o := .tup []) ht0
            have e0 : upd H2 t0 (.tup []) t0 = some (.tup []) := upd_same
            have n0 := p2.ne ht0
            have ntl : t0 ≠ lm := fun e => by rw [e, hlm2] at ht0; cases ht0
            revert s3 e0
            generalize upd H2 t0 (.tup []) = H3
            intro s3 e0
            have p3 := p2.same s3
            refine ⟨(by show 7 ≤ sizeLine; decide), fun l hl => ?_⟩
            have sl := same_new (o := .lst [.int 0, .int 1, .non, .str "", .str "single", .ref t0, .int 2]) hl
            refine ⟨p, l, _, rfl, p3.same sl, upd_same, p3.ne hl, (fun e => by cases e), (by show 7 < 1000000; decide), fun H4 u k4 p4 hu => ?_⟩
            have k34 : Kp p H3 H4 := (Kp.of_s sl).trans k4
            have f0 : hide lm (hide p H4) t0 = some (.tup []) := by rw [hide_ne ntl, hide_ne n0]; exact k34.at n0 e0
            have gu : G P w K (hide lm (hide p H4)) (n + 1) 3 u := by
              simp only [List.mem_cons, List.not_mem_nil, or_false] at hu
              rcases hu with rfl | rfl | rfl | rfl | rfl | rfl | rfl
              · exact (g_int (n := 5) (m := 0) (good_i (by decide +kernel))).mono (by omega) (by decide)
              · exact (g_int (n := 5) (m := 0) (good_i (by decide +kernel))).mono (by omega) (by decide)
              · exact g_non
              · exact (g_str (n := 10) (m := 0) (good_c (by decide +kernel)) (by decide)).mono (by omega) (by decide)
              · exact (g_str (n := 10) (m := 0) (good_c (by decide +kernel)) (by decide)).mono (by omega) (by decide)
              · exact (g_tupA (n := 1) (m := 0) (l := 0) (SqT.of f0) (fun x hx => by cases hx) (Nat.le_refl _) (by decide)).mono (by omega) (by decide)
              · exact (g_int (n := 5) (m := 0) (good_i (by decide +kernel))).mono (by omega) (by decide)
            refine ⟨_, rfl, ?_⟩
            exact put 3 3 u H4 (by decide) rfl ((Kp.of_s s3).trans k34) p4 gu
          · rw [show decide (V.int wy = V.int 3) = false by simp [h4]]
            refine iteF ⟨_, rfl, _, rfl, p, rfl, p2, fun H3 v k3 p3 gv => ?_⟩
            refine ⟨(by show 1 ≤ sizeLine; decide), fun l1 hl1 => ?_⟩
            have s4 := same_new (o := .lst [v]) hl1
            have e1 : upd H3 l1 (.lst [v]) l1 = some (.lst [v]) := upd_same
            have n1 := p3.ne hl1
            have hnm3 : upd H3 l1 (.lst [v]) nm = some (.lst ns) := s4 _ _ ((k2.trans k3).at nmp hnm)
            revert s4 e1 hnm3
            generalize upd H3 l1 (.lst [v]) = H4
            intro s4 e1 hnm4
            have p4 := p3.same s4
            refine ⟨_, rfl, l1, nm, _, _, rfl, rfl, e1, hnm4, (by rw [sizeLine_eq]; simp; omega), fun l2 hl2 => ?_⟩
            have s5 := same_new (o := .lst ([v] ++ ns)) hl2
            have e2 : upd H4 l2 (.lst ([v] ++ ns)) l2 = some (.lst ([v] ++ ns)) := upd_same
            have hnm5 := s5 _ _ hnm4
            revert s5 e2 hnm5
            generalize upd H4 l2 (.lst ([v] ++ ns)) = H5
            intro s5 e2 hnm5
            have p5 := p4.same s5
            refine ⟨_, rfl, l2, nm, _, _, rfl, rfl, e2, hnm5, (by rw [sizeLine_eq]; simp; omega), fun l3 hl3 => ?_⟩
            have s6 := same_new (o := .lst ([v] ++ ns ++ ns)) hl3
            refine ⟨p, l3, _, rfl, p5.same s6, upd_same, p5.ne hl3, (fun e => by cases e), (by simp; omega), fun H6 u k6 p6 hu => ?_⟩
            have k36 : Kp p H3 H6 := (Kp.of_s ((s4.trans s5).trans s6)).trans k6
            have gu : G P w K (hide lm (hide p H6)) (n + 1) 3 u := by
              have hu' : u = v ∨ u ∈ ns := by
                simp only [List.mem_append, List.mem_singleton] at hu
                rcases hu with (h | h) | h
                · exact .inl h
                · exact .inr h
                · exact .inr h
              rcases hu' with rfl | hu'
              · exact (godd (by rw [hlm2]; simp) (.refl _ _) k36 gv).mono (by omega) (Nat.le_refl _)
              · exact (glm ((k2.trans k3).trans k36) (gns u hu')).mono (by omega) (Nat.le_refl _)
            refine ⟨_, rfl, ?_⟩
            exact put 2 2 u H6 (by decide) rfl (k3.trans k36) p6 gu
      · rintro _ Hc ⟨kc, pc, x0, x1, x2, x3, hlc, gx, rfl⟩
        refine ⟨_, rfl, lm, _, rfl, .inl ⟨SqL.of hlc, fun t ht => ?_⟩⟩
        have st := same_new (o := .tup [x0, x1, x2, x3]) ht
        have tp := pc.ne ht
        refine hQ _ _ (kc.trans (.of_s st)) (pc.same st) (rv_tup (l := 4) (SqT.of (by rw [hide_ne tp]; exact upd_same)) (fun x hx => (gx x hx).same (show Kp p Hc _ from .of_s st)) (by show 4 ≤ 4; decide) (by omega) (by decide))
end

end K17
end
section
set_option Elab.async false
set_option linter.all false
set_option maxRecDepth 100000
set_option maxHeartbeats 4000000
namespace K17
open PySem PySem.Spec PyProof.Rows L2 PySem.EK
/-! what the spoilt parts are -/
def rDictC2 (P : Program) (w : World) (K : PySem.W.Frag) : List V → Hp → VK → Prop := fun xs H Q => ∃ (a : Addr) (ps : List Addr) (prs : List (MK × V)), xs = [.ref a] ∧ SqL K H a (ps.map V.ref) ∧ Paired (fun p kv => SqT K H p [kv.1.v, kv.2] ∧ kv.1.ok K H ∧ kv.1.n.isSome = true) ps prs ∧
    ∀ p, H p = none → Q (.ref p) (upd H p (dictO P w p (mergeM [] prs)))
theorem call_dictK {X : Cx} (P : Program) (w : World) (K : PySem.W.Frag) (hcalm : X.calm = true) (hu : X.A.units + 3 < cLine) (hP : X.prog = P := by rfl) (hw : X.w = w := by rfl) (hK : X.K = K := by rfl) : CallR X (.type "dict") (rDictC2 P w K) := by
  subst hP hw hK
  exact call_dictC hcalm hu
section
variable (P : Program) (w : World) (K : PySem.W.Frag)
def KS (H : Hp) (n l : Nat) (v : V) : Prop := (∃ a xs, v = .ref a ∧ H a = some (.lst xs) ∧ xs.length ≤ l ∧ ∀ x ∈ xs, G P w K H n 3 x) ∨ ∃ d, DpC P w K H v d ∧ NF H v d ∧ Good 1000 6 d ∧ isT "list" d = false
def FS (H : Hp) (n l : Nat) (v : V) : Prop := (∃ a es, v = .ref a ∧ DictC P w H a es ∧ (∀ o u, H a ≠ some (.frz o u)) ∧ es.length ≤ l ∧ ∀ e ∈ es, KeyOk K H e.1 ∧ Good n 3 e.1.d ∧ RV P w K H n e.2) ∨ ∃ d, DpC P w K H v d ∧ NF H v d ∧ Good 5000 7 d ∧ isT "dict" d = false
def MS (H : Hp) (n l : Nat) (v : V) : Prop := (∃ a kvs, v = .ref a ∧ DictC P w H a (List.map flX kvs) ∧ (∀ o u, H a ≠ some (.frz o u)) ∧ kvs.length ≤ l ∧ ∀ q ∈ kvs, q.1.good = true ∧ Good n 3 (MK.fl q.1.v).d ∧ G P w K H n 3 q.2) ∨ ∃ d, DpC P w K H v d ∧ NF H v d ∧ Good 5000 7 d ∧ isT "dict" d = false
end
section
variable {P : Program} {w : World} {K : PySem.W.Frag} {H H' : Hp} {n n' l l' : Nat} {v : V}
theorem RV.same (h : RV P w K H n v) (k : Same H H') : RV P w K H' n v := by
  obtain ⟨d, D, nf, g, f⟩ := h
  exact ⟨d, D.same k, nf.same D k, g, f⟩
theorem RV.mono (h : RV P w K H n v) (hn : n ≤ n') : RV P w K H n' v := by
  obtain ⟨d, D, nf, g, f⟩ := h
  exact ⟨d, D, nf, g, fun es e x hx => (f es e x hx).mono hn (Nat.le_refl _)⟩
theorem dict_nf {a : Addr} {es : List (MK × V)} (h : DictC P w H a es) (nf : ∀ o u, H a ≠ some (.frz o u)) (k : Same H H') : ∀ o u, H' a ≠ some (.frz o u) := by
  obtain ⟨u0, hu, _, _, _, nz⟩ := dictC_at h nf
  intro o u e
  rw [k _ _ hu] at e
  cases e
  exact nz _ _ rfl
theorem KS.same (h : KS P w K H n l v) (k : Same H H') : KS P w K H' n l v := by
  rcases h with ⟨a, xs, h1, h2, h3, h4⟩ | ⟨d, D, nf, g, f⟩
  · exact .inl ⟨a, xs, h1, k _ _ h2, h3, fun x hx => (h4 x hx).same k⟩
  · exact .inr ⟨d, D.same k, nf.same D k, g, f⟩
theorem KS.mono (h : KS P w K H n l v) (hn : n ≤ n') (hl : l ≤ l') : KS P w K H n' l' v := by
  rcases h with ⟨a, xs, h1, h2, h3, h4⟩ | ⟨d, D, nf, g, f⟩
  · exact .inl ⟨a, xs, h1, h2, by omega, fun x hx => (h4 x hx).mono hn (Nat.le_refl _)⟩
  · exact .inr ⟨d, D, nf, g, f⟩
theorem FS.same (h : FS P w K H n l v) (k : Same H H') : FS P w K H' n l v := by
  rcases h with ⟨a, es, h1, h2, h3, h4, h5⟩ | ⟨d, D, nf, g, f⟩
  · exact .inl ⟨a, es, h1, dictC_same k h2, dict_nf h2 h3 k, h4, fun e he => ⟨keyOk_same k (h5 e he).1, (h5 e he).2.1, (h5 e he).2.2.same k⟩⟩
  · exact .inr ⟨d, D.same k, nf.same D k, g, f⟩
theorem FS.mono (h : FS P w K H n l v) (hn : n ≤ n') (hl : l ≤ l') : FS P w K H n' l' v := by
  rcases h with ⟨a, es, h1, h2, h3, h4, h5⟩ | ⟨d, D, nf, g, f⟩
  · exact .inl ⟨a, es, h1, h2, h3, by omega, fun e he => ⟨(h5 e he).1, (h5 e he).2.1.mono hn (Nat.le_refl _), (h5 e he).2.2.mono hn⟩⟩
  · exact .inr ⟨d, D, nf, g, f⟩
theorem MS.same (h : MS P w K H n l v) (k : Same H H') : MS P w K H' n l v := by
  rcases h with ⟨a, es, h1, h2, h3, h4, h5⟩ | ⟨d, D, nf, g, f⟩
  · exact .inl ⟨a, es, h1, dictC_same k h2, dict_nf h2 h3 k, h4, fun e he => ⟨(h5 e he).1, (h5 e he).2.1, (h5 e he).2.2.same k⟩⟩
  · exact .inr ⟨d, D.same k, nf.same D k, g, f⟩
theorem MS.mono (h : MS P w K H n l v) (hn : n ≤ n') (hl : l ≤ l') : MS P w K H n' l' v := by
  rcases h with ⟨a, es, h1, h2, h3, h4, h5⟩ | ⟨d, D, nf, g, f⟩
  · exact .inl ⟨a, es, h1, h2, h3, by omega, fun e he => ⟨(h5 e he).1, (h5 e he).2.1.mono hn (Nat.le_refl _), (h5 e he).2.2.mono hn (Nat.le_refl _)⟩⟩
  · exact .inr ⟨d, D, nf, g, f⟩
theorem KS.g (h : KS P w K H n l v) (hn : n ≤ 20) (hl : l ≤ 12) : G P w K H 1000 6 v := by
  rcases h with ⟨a, xs, rfl, h2, h3, h4⟩ | ⟨d, D, nf, g, f⟩
  · exact (g_listA (SqL.of h2) (fun x hx => (h4 x hx).mono hn (Nat.le_refl _)) (Nat.le_trans h3 hl) (by decide)).mono (by decide) (by decide)
  · exact ⟨d, D, nf, g⟩
theorem FS.g (h : FS P w K H n l v) (hn : n ≤ 20) (hl : l ≤ 12) : G P w K H 5000 7 v := by
  rcases h with ⟨a, es, rfl, h2, h3, h4, h5⟩ | ⟨d, D, nf, g, f⟩
  · obtain ⟨ds, D, _, _, g⟩ := g_dict (n := 20) (n' := 200) (m := 5) (l := 12) (F := fun _ => True) h2 (fun e he => ⟨(h5 e he).1, (h5 e he).2.1.mono hn (by decide)⟩) (fun e he => by
      obtain ⟨d, D, _, g, _⟩ := (h5 e he).2.2
      exact ⟨d, D, g, trivial⟩) (Nat.le_trans h4 hl) (by decide)
    refine ⟨_, D, fun b ds' eb _ o u => ?_, g.mono (by decide) (by decide)⟩
    cases eb
    exact h3 o u
  · exact ⟨d, D, nf, g⟩
theorem k4_key {q : K4} {n : Nat} (hg : q.good = true) (h : Good n 3 (MK.fl q.v).d) (hn : n ≤ 1000) : KeyOk K H (.fl q.v) := by
  refine ⟨trivial, by cases q <;> rfl, fun x hx => ?_⟩
  have hb : (1000 : Nat) ≤ big := by decide
  rcases hx with hx | hx
  · have h3 := h.2.2.1
    rw [hx] at h3
    simp only [PyData.weight] at h3
    show x.cps.size ≤ big
    omega
  · cases q <;> cases hx
theorem MS.g (h : MS P w K H n l v) (hn : n ≤ 20) (hl : l ≤ 12) : G P w K H 5000 7 v := by
  rcases h with ⟨a, es, rfl, h2, h3, h4, h5⟩ | ⟨d, D, nf, g, f⟩
  · obtain ⟨ds, D, _, _, g⟩ := g_dict (K := K) (n := 20) (n' := 20) (m := 3) (l := 12) (F := fun _ => True) h2 (fun e he => by
      obtain ⟨q, hq, rfl⟩ := List.mem_map.mp he
      exact ⟨k4_key (h5 q hq).1 (h5 q hq).2.1 (by omega), (h5 q hq).2.1.mono hn (Nat.le_refl _)⟩) (fun e he => by
      obtain ⟨q, hq, rfl⟩ := List.mem_map.mp he
      obtain ⟨d, D, _, g⟩ := (h5 q hq).2.2
      exact ⟨d, D, g.mono hn (Nat.le_refl _), trivial⟩) (by rw [List.length_map]; omega) (by decide)
    refine ⟨_, D, fun b ds' eb _ o u => ?_, g.mono (by decide) (by decide)⟩
    cases eb
    exact h3 o u
  · exact ⟨d, D, nf, g⟩
theorem dictO_nf {a : Addr} {es : List (MK × V)} (h : H a = some (dictO P w a es)) : ∀ o u, H a ≠ some (.frz o u) := by
  intro o u e
  rw [h] at e
  unfold dictO at e
  split at e
  · cases e
  · cases e
theorem putM_mem {acc : List (MK × V)} {k : MK} {x : V} {e : MK × V} (h : e ∈ putM acc k x) : (∃ q ∈ acc ++ [(k, x)], e.1 = q.1) ∧ (∃ q ∈ acc ++ [(k, x)], e.2 = q.2) := by
  unfold putM at h
  split at h
  · obtain ⟨q, hq, rfl⟩ := List.mem_map.mp h
    by_cases hc : q.1.n = k.n
    · rw [if_pos hc]
      exact ⟨⟨q, List.mem_append_left _ hq, rfl⟩, (k, x), by simp, rfl⟩
    · rw [if_neg hc]
      exact ⟨⟨q, List.mem_append_left _ hq, rfl⟩, q, List.mem_append_left _ hq, rfl⟩
  · exact ⟨⟨e, h, rfl⟩, e, h, rfl⟩
theorem mergeM_mem : ∀ {prs acc : List (MK × V)} {e : MK × V}, e ∈ mergeM acc prs → (∃ q ∈ acc ++ prs, e.1 = q.1) ∧ (∃ q ∈ acc ++ prs, e.2 = q.2)
  | [], acc, e, h => by
    have h' : e ∈ acc := h
    exact ⟨⟨e, by simpa using h', rfl⟩, e, by simpa using h', rfl⟩
  | p :: r, acc, e, h => by
    have e1 : mergeM acc (p :: r) = mergeM (putM acc p.1 p.2) r := rfl
    rw [e1] at h
    obtain ⟨⟨q, hq, e2⟩, q', hq', e3⟩ := mergeM_mem h
    have go : ∀ {q : MK × V}, q ∈ putM acc p.1 p.2 ++ r → (∃ z ∈ acc ++ p :: r, q.1 = z.1) ∧ (∃ z ∈ acc ++ p :: r, q.2 = z.2) := fun {q} hq => by
      rcases List.mem_append.mp hq with hq | hq
      · obtain ⟨⟨a, ha, ea⟩, b, hb, eb⟩ := putM_mem hq
        have up : ∀ {z : MK × V}, z ∈ acc ++ [(p.1, p.2)] → z ∈ acc ++ p :: r := fun {z} hz => by
          rcases List.mem_append.mp hz with hz | hz
          · exact List.mem_append_left _ hz
          · rw [List.mem_singleton] at hz
            rw [hz]
            exact List.mem_append_right _ List.mem_cons_self
        exact ⟨⟨a, up ha, ea⟩, b, up hb, eb⟩
      · have : q ∈ acc ++ p :: r := List.mem_append_right _ (List.mem_cons_of_mem _ hq)
        exact ⟨⟨q, this, rfl⟩, q, this, rfl⟩
    obtain ⟨a, ha, ea⟩ := (go hq).1
    obtain ⟨b, hb, eb⟩ := (go hq').2
    exact ⟨⟨a, ha, e2.trans ea⟩, b, hb, e3.trans eb⟩
theorem mergeM0 {prs : List (MK × V)} {A : MK → Prop} {B : V → Prop} (h : ∀ q ∈ prs, A q.1 ∧ B q.2) : ∀ e ∈ mergeM [] prs, A e.1 ∧ B e.2 := fun e he => by
  obtain ⟨⟨a, ha, ea⟩, b, hb, eb⟩ := mergeM_mem he
  rw [List.nil_append] at ha hb
  rw [ea, eb]
  exact ⟨(h a ha).1, (h b hb).2⟩
theorem k4_list {A : K4 → Prop} {B : V → Prop} : ∀ {es : List (MK × V)}, (∀ e ∈ es, (∃ k : K4, A k ∧ e.1 = .fl k.v) ∧ B e.2) → ∃ kvs : List (K4 × V), es = kvs.map flX ∧ ∀ q ∈ kvs, A q.1 ∧ B q.2
  | [], _ => ⟨[], rfl, fun q hq => by cases hq⟩
  | e :: es, h => by
    obtain ⟨⟨k, hk, ek⟩, hb⟩ := h e List.mem_cons_self
    obtain ⟨kvs, e1, h1⟩ := k4_list fun x hx => h x (List.mem_cons_of_mem _ hx)
    refine ⟨(k, e.2) :: kvs, ?_, fun q hq => ?_⟩
    · rw [List.map_cons, ← e1]
      show e :: es = (MK.fl k.v, e.2) :: es
      rw [← ek]
    · rcases List.mem_cons.mp hq with rfl | hq
      · exact ⟨hk, hb⟩
      · exact h1 q hq
end
end K17
end
section
set_option Elab.async false
set_option linter.all false
set_option maxRecDepth 100000
set_option maxHeartbeats 4000000
namespace K17
open PySem PySem.Spec PyProof.Rows L2 PySem.EK

abbrev s__law_spoilt : Stmt := top 37
def flD (fl : List (Str × V)) : List (Key × V) := fl.map fun r => (Sum.inr r.1, r.2)
structure SpIn (P : Program) (w : World) (K : PySem.W.Frag) (H : Hp) (p : Addr) (t : Nat) (ak af ag : Addr) (xs : List V) (fl : List (Str × V)) (kvs : List (K4 × V)) : Prop where
  hp : PotAt H p
  t2 : t ≤ 2
  k : hide p H ak = some (.lst xs)
  kne : xs ≠ []
  kl : xs.length ≤ 3 + t
  kg : ∀ x ∈ xs, G P w K (hide p H) (10 + t) 3 x
  f : hide p H af = some (.dK (flD fl))
  fll : fl.length ≤ 6 + t
  fnd : (fl.map (·.1)).Nodup
  fnm : ∀ r ∈ fl, isNameD (.str r.1) = true
  fr : ∀ r ∈ fl, RV P w K (hide p H) (10 + t) r.2 ∧ ∃ tt z0 y1 y2 y3, r.2 = .ref tt ∧ SqT K (hide p H) tt [.str z0, y1, y2, y3] ∧ (∀ x ∈ [V.str z0, y1, y2, y3], G P w K (hide p H) (10 + t) 3 x) ∧ (y2 = .non ∨ ∃ b, y2 = .str b)
  g : DictC P w (hide p H) ag (kvs.map flX)
  gnf : ∀ o u, hide p H ag ≠ some (.frz o u)
  gl : kvs.length ≤ 3 + t
  gk : ∀ q ∈ kvs, q.1.good = true ∧ Good (10 + t) 3 (MK.fl q.1.v).d ∧ G P w K (hide p H) (10 + t) 3 q.2
theorem SpIn.kp {P : Program} {w : World} {K : PySem.W.Frag} {H H' : Hp} {p : Addr} {t : Nat} {ak af ag : Addr} {xs : List V} {fl : List (Str × V)} {kvs : List (K4 × V)} (S : SpIn P w K H p t ak af ag xs fl kvs) (k : Kp p H H') (hp : PotAt H' p) : SpIn P w K H' p t ak af ag xs fl kvs :=
  ⟨hp, S.t2, k _ _ S.k, S.kne, S.kl, fun x hx => (S.kg x hx).same k, k _ _ S.f, S.fll, S.fnd, S.fnm, fun r hr => by
    obtain ⟨h1, tt, z0, y1, y2, y3, h2, h3, h4, h5⟩ := S.fr r hr
    exact ⟨h1.same k, tt, z0, y1, y2, y3, h2, sqT_same k h3, fun x hx => (h4 x hx).same k, h5⟩, dictC_same k S.g, dict_nf S.g S.gnf k, S.gl, fun q hq => ⟨(S.gk q hq).1, (S.gk q hq).2.1, (S.gk q hq).2.2.same k⟩⟩
def spSpoilt (P : Program) (w : World) (K : PySem.W.Frag) : Sp := fun vs H Q _ => ∃ (p : Addr) (t : Nat) (ak af ag : Addr) (xs : List V) (fl : List (Str × V)) (kvs : List (K4 × V)), vs = [.ref p, .ref ak, .ref af, .ref ag] ∧ SpIn P w K H p t ak af ag xs fl kvs ∧
  ∀ (H' : Hp) (tup : Addr) (vk vf vg : V), Kp p H H' → PotAt H' p → H' tup = some (.tup [vk, vf, vg]) → KS P w K (hide p H') (11 + t) (4 + t) vk → FS P w K (hide p H') (11 + t) (7 + t) vf → MS P w K (hide p H') (11 + t) (4 + t) vg → Q (.ref tup) H'
section
variable {P : Program} {w : World} {K : PySem.W.Frag} {mg : Str → Option Value} {base : Heap}
theorem name_good {z : Str} (h : isNameD (.str z) = true) : Good 8 0 (.str z) := by
  simp only [isNameD, Bool.and_eq_true, decide_eq_true_eq, List.all_eq_true] at h
  exact Nm.good ⟨h.1.1, h.1.2, h.2⟩
theorem flD_keys (fl : List (Str × V)) : (flD fl).map (·.1) = (fl.map (·.1)).map Sum.inr := by simp [flD, Function.comp_def]
theorem flD_val {fl : List (Str × V)} (nd : (fl.map (·.1)).Nodup) {r : Str × V} (hr : r ∈ fl) : valV (flD fl) (Sum.inr r.1) = some r.2 :=
  valV_mem (p := ((Sum.inr r.1 : Key), r.2)) (by rw [flD_keys]; exact inr_nodup nd) (List.mem_map.mpr ⟨r, hr, rfl⟩)
theorem SpIn.ks {H : Hp} {p : Addr} {t : Nat} {ak af ag : Addr} {xs : List V} {fl : List (Str × V)} {kvs : List (K4 × V)} (S : SpIn P w K H p t ak af ag xs fl kvs) : KS P w K (hide p H) (11 + t) (4 + t) (.ref ak) :=
  .inl ⟨ak, xs, rfl, S.k, by have := S.kl; omega, fun x hx => (S.kg x hx).mono (by omega) (Nat.le_refl _)⟩
theorem str_key {H : Hp} {z : Str} {n : Nat} (h : Good n 0 (.str z)) (hn : n ≤ 1000) : KeyOk K H (.fl (.str z)) := k4_key (q := .s z) rfl (h.mono (Nat.le_refl _) (by decide)) hn
theorem SpIn.fs {H : Hp} {p : Addr} {t : Nat} {ak af ag : Addr} {xs : List V} {fl : List (Str × V)} {kvs : List (K4 × V)} (S : SpIn P w K H p t ak af ag xs fl kvs) : FS P w K (hide p H) (11 + t) (7 + t) (.ref af) := by
  refine .inl ⟨af, (flD fl).map flK, rfl, .inl ⟨_, .inl S.f, rfl⟩, fun o u e => ?_, by have := S.fll; simp [flD]; omega, fun e he => ?_⟩
  · rw [S.f] at e; cases e
  · obtain ⟨q, hq, rfl⟩ := List.mem_map.mp he
    obtain ⟨r, hr, rfl⟩ := List.mem_map.mp hq
    have g := name_good (S.fnm r hr)
    exact ⟨str_key g (by decide), g.mono (by omega) (by decide), (S.fr r hr).1.mono (by omega)⟩
theorem SpIn.ms {H : Hp} {p : Addr} {t : Nat} {ak af ag : Addr} {xs : List V} {fl : List (Str × V)} {kvs : List (K4 × V)} (S : SpIn P w K H p t ak af ag xs fl kvs) : MS P w K (hide p H) (11 + t) (4 + t) (.ref ag) :=
  .inl ⟨ag, kvs, rfl, S.g, S.gnf, by have := S.gl; omega, fun q hq => ⟨(S.gk q hq).1, (S.gk q hq).2.1.mono (by omega) (Nat.le_refl _), (S.gk q hq).2.2.mono (by omega) (Nat.le_refl _)⟩⟩
theorem cut_drop {xs : List V} {k : Nat} : cutV xs (some (k : Int)) none = xs.drop k := by
  unfold cutV
  rw [HT.sIx_nat, HT.sIx_none]
  by_cases h : k ≤ xs.length
  · rw [Nat.min_eq_left h, List.take_of_length_le (by rw [List.length_drop]; omega)]
  · rw [Nat.min_eq_right (by omega), Nat.sub_self, List.take_zero, List.drop_of_length_le (by omega)]
theorem paired_mem {α β : Type} {F : α → β → Prop} : ∀ {xs : List α} {ys : List β}, Paired F xs ys → ∀ {x : α}, x ∈ xs → ∃ y ∈ ys, F x y
  | _, _, .nil, _, h => by cases h
  | _, _, .cons a b, x, h => by
    rcases List.mem_cons.mp h with rfl | h
    · exact ⟨_, List.mem_cons_self, a⟩
    · obtain ⟨y, hy, f⟩ := paired_mem b h
      exact ⟨y, List.mem_cons_of_mem _ hy, f⟩
theorem paired_imp {α β : Type} {F F' : α → β → Prop} {xs : List α} {ys : List β} (h : Paired F xs ys) (f : ∀ x y, F x y → F' x y) : Paired F' xs ys := by
  induction h with
  | nil => exact .nil
  | cons a _ ih => exact .cons (f _ _ a) ih
theorem paired_flX {H : Hp} {ts : List Addr} {kvs : List (K4 × V)} (h : Paired (fun (tt : Addr) (q : K4 × V) => H tt = some (.tup [q.1.v, q.2]) ∧ True) ts kvs) : Paired (fun p kv => SqT K H p [kv.1.v, kv.2] ∧ kv.1.ok K H ∧ kv.1.n.isSome = true) ts (kvs.map flX) := by
  induction h with
  | nil => exact .nil
  | @cons tt q ts kvs a _ ih =>
    refine .cons ⟨SqT.of a.1, trivial, ?_⟩ ih
    show (MK.fl q.1.v).n.isSome = true
    cases q.1 <;> rfl
theorem paired_map2 {H : Hp} {ts : List Addr} {qs : List (Str × V)} (h : Paired (fun tt q => H tt = some (.tup [.str q.1, q.2])) ts qs) : Paired (fun (tt : Addr) (q : K4 × V) => H tt = some (.tup [q.1.v, q.2]) ∧ True) ts (qs.map fun q => (K4.s q.1, q.2)) := by
  induction h with
  | nil => exact .nil
  | cons a _ ih => exact .cons ⟨a, trivial⟩ ih
theorem sc__law_spoilt : FnScope ["_law_pot_here", "_law_breeds", "_law_heads", "_law_marks", "_law_way", "_law_names", "_law_at", "_law_name", "_law_more", "_law_one"] ["_law_pot_here", "_law_breeds", "_law_heads", "_law_marks"] (defScope s__law_spoilt) := ⟨rfl, rfl, rfl, by decide +kernel, rfl, by decide +kernel, by decide +kernel⟩
theorem c__law_spoilt (h : Def K mg "_law_spoilt" s__law_spoilt) (B : Bl mg) (C__law_draw : Cal P w K mg base CX0 1 "_law_draw" ["_law_pot_here", "_law_many"] spDrawP) (C__law_pick : Cal P w K mg base CX0 2 "_law_pick" ["_law_pot_here", "_law_some"] spPickP)
    (C__law_odd : Cal P w K mg base CX0 3 "_law_odd" ["_law_pot_here"] (spOdd P w K)) (C__law_field_spoilt : Cal P w K mg base CX0 4 "_law_field_spoilt" ["_law_pot_here", "_law_row", "_law_names"] (spFSp P w K)) :
    Cal P w K mg base CX0 5 "_law_spoilt" ["_law_pot_here", "_law_breeds", "_law_heads", "_law_marks"] (spSpoilt P w K) := by
  refine cal_of h sc__law_spoilt (fun vs H Q E h => ?_) (fun _ _ _ _ _ _ us hl => match us, hl with | [_, _, _, _], _ => rfl) (fun f cdv A outer s H vs Q E hr h => ?_)
  · obtain ⟨p, t, ak, af, ag, xs, fl, kvs, rfl, _⟩ := h
    rfl
  · obtain ⟨p, t, ak, af, ag, xs, fl, kvs, rfl, S, hQ⟩ := h
    refine ⟨_, PSs.nox (pss_cons (ps_set (i := 4) sc__law_spoilt.nd rfl (Or.inl rfl) (pe_c C__law_draw hr pass0 (pa_cons (pv 0) (pa_cons pe_int pa_nil))))
      (C8.pss_cut (ps_set (i := 5) sc__law_spoilt.nd rfl (Or.inl rfl) (pe_op op_cat (pe_callB (cr_srtD rfl) (by rfl) B.sorted (by decide +kernel) (pa_cons (pv 2) pa_nil)) (pe_lc (own := [("_law_name", 7)]) (by rfl) sc__law_spoilt.nd (pi_list (pe_callB (cr_srtD rfl) (by rfl) B.sorted (by decide +kernel) (pa_cons (pv 2) pa_nil))) (blkOk_by (own := [("_law_name", 7)]) (N := ["_law_pot_here", "_law_breeds", "_law_heads", "_law_marks", "_law_way", "_law_names", "_law_at", "_law_name", "_law_more", "_law_one"]) (sc := defScope s__law_spoilt) (by decide +kernel)) (fun _ _ _ _ _ => (pg_name (i := 7) sc__law_spoilt.nd rfl (Or.inl rfl))) (fun _ _ _ _ _ => pts_one (pt_cmpR op_notN (pe_ix (ix_tupK K) (pe_dget (un_of hr) (pv 2) (pv 7) (fun _ _ => rfl)) pe_int (fun _ _ => rfl)) pe_non (nomark _))) (fun _ _ _ _ _ => (pe_ix (ix_tupK K) (pe_dget (un_of hr) (pv 2) (pv 7) (fun _ _ => rfl)) pe_int (fun _ _ => rfl))))))
      (pss_cons (ps_if (pt_cmpR op_eq (pv 4) pe_int (nomark _)) (pss_one (ps_ret (pe_tup (pa_cons (pe_c C__law_pick hr pass0 (pa_cons (pv 0) (pa_cons (pe_lst (pa_cons pe_non (pa_cons pe_str (pa_cons (pe_tup pa_nil) (pa_cons (pe_lst pa_nil) (pa_cons pe_dnewK (pa_cons pe_int (pa_cons (pe_callTy (call_dictK P w K rfl (un_of hr)) (by rfl) B.dict (by decide +kernel) (pa_cons (pe_lst (pa_cons (pe_tup (pa_cons pe_str (pa_cons pe_int pa_nil))) pa_nil)) pa_nil)) (pa_cons (pe_callTy call_tuple_of (by rfl) B.tuple (by decide +kernel) (pa_cons (pv 1) pa_nil)) pa_nil))))))))) pa_nil))) (pa_cons (pv 2) (pa_cons (pv 3) pa_nil)))))) pss_nil)
      (pss_cons (ps_if (pt_cmpR op_eq (pv 4) pe_int (nomark _)) (pss_cons (ps_set (i := 6) sc__law_spoilt.nd rfl (Or.inl rfl) (pe_c C__law_draw hr pass0 (pa_cons (pv 0) (pa_cons (pe_op op_add (pe_callB call_len_seq (by rfl) B.len (by decide +kernel) (pa_cons (pv 1) pa_nil)) pe_int) pa_nil))))
      (pss_one (ps_ret (pe_tup (pa_cons (pe_op op_cat (pe_op op_cat (pe_slice sl_list (pv 1) po_none (po_some (pv 6))) (pe_lst (pa_cons (pe_c C__law_pick hr pass0 (pa_cons (pv 0) (pa_cons (pe_lst (pa_cons (pe_c C__law_odd hr pass0 (pa_cons (pv 0) pa_nil)) (pa_cons (pe_ix ix_list (pv 1) pe_int (fun _ _ => rfl)) (pa_cons pe_str pa_nil)))) pa_nil))) pa_nil))) (pe_slice sl_list (pv 1) (po_some (pe_op op_add (pv 6) pe_int)) po_none)) (pa_cons (pv 2) (pa_cons (pv 3) pa_nil))))))) pss_nil)
      (pss_cons (ps_if (pt_cmpR op_eq (pv 4) pe_int (nomark _)) (pss_one (ps_ret (pe_tup (pa_cons (pv 1) (pa_cons (pe_c C__law_pick hr pass0 (pa_cons (pv 0) (pa_cons (pe_lst (pa_cons pe_non (pa_cons (pe_tup pa_nil) (pa_cons (pe_lst pa_nil) (pa_cons pe_str (pa_cons (pe_listItemsX rfl (pv 2) (by rfl) B.list (by decide +kernel)) (pa_cons pe_bl (pa_cons pe_dnewK pa_nil)))))))) pa_nil))) (pa_cons (pv 3) pa_nil)))))) pss_nil)
      (pss_cons (ps_if (pt_cmpR op_eq (pv 4) pe_int (nomark _)) (pss_cons (ps_set (i := 7) sc__law_spoilt.nd rfl (Or.inr rfl) (pe_c C__law_pick hr pass0 (pa_cons (pv 0) (pa_cons (pe_lst (pa_cons pe_str (pa_cons pe_str (pa_cons pe_str (pa_cons pe_int (pa_cons pe_non (pa_cons (pe_tup (pa_cons pe_str pa_nil)) (pa_cons pe_bl (pa_cons pe_str pa_nil))))))))) pa_nil))))
      (pss_one (ps_ret (pe_tup (pa_cons (pv 1) (pa_cons (pe_callTy (call_dictK P w K rfl (un_of hr)) (by rfl) B.dict (by decide +kernel) (pa_cons (pe_op op_cat (pe_listItemsX rfl (pv 2) (by rfl) B.list (by decide +kernel)) (pe_lst (pa_cons (pe_tup (pa_cons (pv 7) (pa_cons (pe_tup (pa_cons (pe_ix ix_list (pv 1) pe_int (fun _ _ => rfl)) (pa_cons (pe_ix ix_list (pv 1) pe_int (fun _ _ => rfl)) (pa_cons pe_non (pa_cons pe_bl pa_nil))))) pa_nil))) pa_nil))) pa_nil)) (pa_cons (pv 3) pa_nil))))))) pss_nil)
      (C8.pss_cut (ps_if (PW.pt (pw_and (pt_cmpR op_lt (pv 4) pe_int (nomark _)) (pw_and1 (pt_cmpR (op_neD0 (Nat.lt_of_le_of_lt (Nat.le_add_right _ 1) (un_of hr))) (pv 2) pe_dnewK (nomark _))))) (pss_cons (ps_set (i := 7) sc__law_spoilt.nd rfl (Or.inr rfl) (pe_c C__law_pick hr pass0 (pa_cons (pv 0) (pa_cons (pe_callB (cr_srtD rfl) (by rfl) B.sorted (by decide +kernel) (pa_cons (pv 2) pa_nil)) pa_nil))))
      (pss_cons (ps_set (i := 8) sc__law_spoilt.nd rfl (Or.inl rfl) (pe_lst (pa_cons (pe_tup (pa_cons (pv 7) (pa_cons (pe_c C__law_field_spoilt hr pass0 (pa_cons (pv 0) (pa_cons (pe_dget (un_of hr) (pv 2) (pv 7) (fun _ _ => rfl)) (pa_cons (pv 5) pa_nil)))) pa_nil))) pa_nil)))
      (pss_one (ps_ret (pe_tup (pa_cons (pv 1) (pa_cons (pe_callTy (call_dictK P w K rfl (un_of hr)) (by rfl) B.dict (by decide +kernel) (pa_cons (pe_op op_cat (pe_lock (pe_lc (own := [("_law_one", 9)]) (by rfl) sc__law_spoilt.nd (pi_keysX (pv 2)) (blkOk_by (own := [("_law_one", 9)]) (N := ["_law_pot_here", "_law_breeds", "_law_heads", "_law_marks", "_law_way", "_law_names", "_law_at", "_law_name", "_law_more", "_law_one"]) (sc := defScope s__law_spoilt) (by decide +kernel)) (fun _ _ _ _ _ => (pg_name (i := 9) sc__law_spoilt.nd rfl (Or.inl rfl))) (fun _ _ _ _ _ => pts_one (pt_cmpR op_ne (pv 9) (pv 7) (nomark _))) (fun _ _ _ _ _ => (pe_tup (pa_cons (pv 9) (pa_cons (pe_dget (un_of hr) (pv 2) (pv 9) (fun _ _ => rfl)) pa_nil)))))) (pv 8)) pa_nil)) (pa_cons (pv 3) pa_nil)))))))) pss_nil)
      (pss_cons (ps_if (pt_cmpR op_eq (pv 4) pe_int (nomark _)) (pss_one (ps_ret (pe_tup (pa_cons (pv 1) (pa_cons (pv 2) (pa_cons (pe_c C__law_pick hr pass0 (pa_cons (pv 0) (pa_cons (pe_lst (pa_cons pe_non (pa_cons (pe_lst pa_nil) (pa_cons pe_str (pa_cons (pe_tup (pa_cons pe_non pa_nil)) (pa_cons (pe_tup (pa_cons pe_str pa_nil)) (pa_cons (pe_listItemsX rfl (pv 3) (by rfl) B.list (by decide +kernel)) (pa_cons pe_bl (pa_cons pe_int (pa_cons pe_dnewK pa_nil)))))))))) pa_nil))) pa_nil)))))) pss_nil)
      (pss_cons (ps_set (i := 7) sc__law_spoilt.nd rfl (Or.inr rfl) (pe_c C__law_pick hr pass0 (pa_cons (pv 0) (pa_cons (pe_op op_cat (pv 5) (pe_lst (pa_cons (pe_c C__law_pick hr pass0 (pa_cons (pv 0) (pa_cons (pe_lst (pa_cons pe_str (pa_cons pe_str (pa_cons pe_str (pa_cons pe_str (pa_cons pe_non (pa_cons pe_int (pa_cons pe_bl pa_nil)))))))) pa_nil))) pa_nil))) pa_nil))))
      (pss_one (ps_ret (pe_tup (pa_cons (pv 1) (pa_cons (pv 2) (pa_cons (pe_callTy (call_dictK P w K rfl (un_of hr)) (by rfl) B.dict (by decide +kernel) (pa_cons (pe_op op_cat (pe_listItemsX rfl (pv 3) (by rfl) B.list (by decide +kernel)) (pe_lst (pa_cons (pe_tup (pa_cons (pv 7) (pa_cons (pe_c C__law_pick hr pass0 (pa_cons (pv 0) (pa_cons (pe_op op_cat (pv 1) (pe_lst (pa_cons (pe_c C__law_odd hr pass0 (pa_cons (pv 0) pa_nil)) pa_nil))) pa_nil))) pa_nil))) pa_nil))) pa_nil)) pa_nil))))))))))))))), ?_⟩
    refine ⟨_, rfl, p, 8, rfl, S.hp, by decide, by decide, fun H1 wy k1 p1 hw0 hw8 => ?_⟩
    have S1 := S.kp k1 p1
    have hf1 : H1 af = some (.dK (flD fl)) := hide_le _ _ S1.f
    have hlk : (fl.map (·.1)).length < 64 := by rw [List.length_map]; have := S.fll; have := S.t2; omega
    -- the names
    refine ⟨fun σ Hc => Same H1 Hc ∧ ∃ nm ns, Hc nm = some (.lst ns) ∧ nm ≠ p ∧ ns.length ≤ 50 ∧ (∀ x ∈ ns, ∃ b, x = V.str b ∧ Good (10 + t) 0 (.str b)) ∧ σ = [some (.ref p), some (.ref ak), some (.ref af), some (.ref ag), some (.int wy), some (.ref nm), none, none, none, none], ?_, ?_⟩
    · refine ⟨_, rfl, af, _, fl.map (·.1), rfl, .inl hf1, flD_keys fl, hlk, fun l1 hl1 => ?_⟩
      have s2 := same_new (o := .lst ((srt (fl.map (·.1))).map V.str)) hl1
      have e1 : upd H1 l1 (.lst ((srt (fl.map (·.1))).map V.str)) l1 = some (.lst ((srt (fl.map (·.1))).map V.str)) := upd_same
      revert s2 e1
      generalize upd H1 l1 (.lst ((srt (fl.map (·.1))).map V.str)) = H2
      intro s2 e1
      refine ⟨_, rfl, af, _, fl.map (·.1), rfl, .inl (s2 _ _ hf1), flD_keys fl, hlk, fun l2 hl2 => ⟨l2, rfl, ⟨_, SqL.of upd_same⟩, fun D hD => ?_⟩⟩
      have s3 := same_new (o := .lst ((srt (fl.map (·.1))).map V.str)) hl2
      have e2 : upd H2 l2 (.lst ((srt (fl.map (·.1))).map V.str)) l2 = some (.lst ((srt (fl.map (·.1))).map V.str)) := upd_same
      revert hD s3 e2
      generalize upd H2 l2 (.lst ((srt (fl.map (·.1))).map V.str)) = H3
      intro hD s3 e2
      have s13 := s2.trans s3
      refine lc_it (walk_strs (l := srt (fl.map (·.1)))) (fun i Hx => Same H3 Hx ∧ ∃ ys, Hx D = some (.lst ys) ∧ ys.length ≤ i ∧ ∀ x ∈ ys, ∃ b, x = V.str b ∧ Good (10 + t) 0 (.str b)) ⟨same_new hD, [], upd_same, Nat.le_refl _, (fun x hx => by cases hx)⟩ (fun i Hx _ h => h.1.seq (SqL.of e2)) ?_ ?_
      · rintro i x Hx Hy hi ⟨kx, ys, hDx, hyl, hys⟩ ⟨rfl, z, hz, rfl⟩
        have hzm : z ∈ fl.map (·.1) := srt_mem.mp (List.mem_of_getElem? hz)
        obtain ⟨r, hr, rfl⟩ := List.mem_map.mp hzm
        obtain ⟨_, tt, z0, y1, y2, y3, er, hsq, hg, hy2⟩ := S1.fr r hr
        have kh := s13.trans kx
        have dg : DGet Hy af (.str r.1) (some (.ref tt)) := by
          have q := dget_rd (z := r.1) (H := Hy) (a := af) (.inl (kh _ _ hf1))
          rw [flD_val S.fnd hr, er] at q
          exact q
        have hst : SqT K Hy tt [.str z0, y1, y2, y3] := sqT_same kh (sqT_same hide_le hsq)
        refine ⟨rfl, ?_⟩
        refine ⟨_, rfl, _, rfl, af, _, rfl, dg, tt, _, _, y2, rfl, rfl, hst, rfl, rfl, _, rfl, ?_⟩
        have hil : i < 64 := by rw [srt_length] at hi; omega
        rcases hy2 with rfl | ⟨b, rfl⟩
        · exact iteF ⟨kx, ys, hDx, by omega, hys⟩
        · refine iteT ⟨_, rfl, _, rfl, af, _, rfl, dg, tt, _, _, _, rfl, rfl, hst, rfl, ys, hDx, by rw [sizeLine_eq]; omega, same_mut kx hD, ys ++ [.str b], upd_same, by rw [List.length_append]; show ys.length + 1 ≤ i + 1; omega, fun x hx => ?_⟩
          rcases List.mem_append.mp hx with hx | hx
          · exact hys x hx
          · rw [List.mem_singleton] at hx
            exact ⟨b, hx, (hg (.str b) (by simp)).strOf⟩
      · rintro Hx ⟨kx, ys, hDx, hyl, hys⟩
        rw [srt_length] at hyl
        refine ⟨l1, D, _, _, rfl, rfl, kx _ _ (s3 _ _ e1), hDx, by rw [List.length_map, srt_length, sizeLine_eq]; omega, fun nm hnm => ?_⟩
        refine ⟨(s13.trans kx).trans (same_new hnm), nm, _, upd_same, (p1.same (s13.trans kx)).ne hnm, ?_, fun x hx => ?_, rfl⟩
        · rw [List.length_append, List.length_map, srt_length]
          rw [List.length_map] at *
          have := S.fll; have := S.t2
          omega
        · rcases List.mem_append.mp hx with hx | hx
          · obtain ⟨z, hz, rfl⟩ := List.mem_map.mp hx
            obtain ⟨r, hr, rfl⟩ := List.mem_map.mp (srt_mem.mp hz)
            exact ⟨_, rfl, (name_good (S.fnm r hr)).mono (by omega) (Nat.le_refl _)⟩
          · exact hys x hx
    rintro _ H2 ⟨s2, nm, ns, hnm, nmp, hnl, hns, rfl⟩
    have S2 := S1.kp (.of_s s2) (p1.same s2)
    have k2 : Kp p H H2 := k1.trans (.of_s s2)
    have p2 := S2.hp
    have fin : ∀ (H' : Hp) (tup : Addr) (vk vf vg : V), Kp p H2 H' → PotAt H' p → H' tup = some (.tup [vk, vf, vg]) → KS P w K (hide p H') (11 + t) (4 + t) vk → FS P w K (hide p H') (11 + t) (7 + t) vf → MS P w K (hide p H') (11 + t) (4 + t) vg → Q (.ref tup) H' := fun H' tup vk vf vg k => hQ H' tup vk vf vg (k2.trans k)
    clear hQ k1 p1 S1 hf1 s2 S k2
    have hak : H2 ak = some (.lst xs) := hide_le _ _ S2.k
    have akp : ak ≠ p := fun e => by have := S2.k; rw [e, hide_at] at this; cases this
    have haf : H2 af = some (.dK (flD fl)) := hide_le _ _ S2.f
    have afp : af ≠ p := fun e => by have := S2.f; rw [e, hide_at] at this; cases this
    have ht2 := S2.t2
    have ga : ∀ {Hx : Hp}, ∀ x ∈ [V.str "a"], G P w K Hx 1 0 x := fun x hx => by
      rw [List.mem_singleton] at hx
      subst hx
      exact g_str (good_c (by decide +kernel)) (by decide)
    -- way 0
    refine ⟨_, rfl, rfl, _, rfl, ?_⟩
    by_cases w0 : wy = 0
    · rw [show decide (V.int wy = V.int 0) = true by simp [w0]]
      refine iteT ?_
      refine ⟨_, rfl, (by show 0 ≤ sizeLine; decide), fun a0 ha0 => ?_⟩
      have sa0 := same_new (o := .tup []) ha0
      have ea0 : upd H2 a0 (.tup []) a0 = some (.tup []) := upd_same
      have na0 := p2.ne ha0
      revert sa0 ea0
      generalize upd H2 a0 (.tup []) = I0
      intro sa0 ea0
      have p3 := p2.same sa0
      refine ⟨(by show 0 ≤ sizeLine; decide), fun a1 ha1 => ?_⟩
      have sa1 := same_new (o := .lst []) ha1
      have ea1 : upd I0 a1 (.lst []) a1 = some (.lst []) := upd_same
      have na1 := p3.ne ha1
      revert sa1 ea1
      generalize upd I0 a1 (.lst []) = I1
      intro sa1 ea1
      have p4 := p3.same sa1
      intro a2 ha2
      have sa2 := same_new (o := .dK []) ha2
      have ea2 : upd I1 a2 (.dK []) a2 = some (.dK []) := upd_same
      have na2 := p4.ne ha2
      revert sa2 ea2
      generalize upd I1 a2 (.dK []) = I2
      intro sa2 ea2
      have p5 := p4.same sa2
      refine ⟨(by show 2 ≤ sizeLine; decide), fun a3 ha3 => ?_⟩
      have sa3 := same_new (o := .tup [.str "a", .int 1]) ha3
      have ea3 : upd I2 a3 (.tup [.str "a", .int 1]) a3 = some (.tup [.str "a", .int 1]) := upd_same
      have na3 := p5.ne ha3
      revert sa3 ea3
      generalize upd I2 a3 (.tup [.str "a", .int 1]) = I3
      intro sa3 ea3
      have p6 := p5.same sa3
      refine ⟨(by show 1 ≤ sizeLine; decide), fun a4 ha4 => ?_⟩
      have sa4 := same_new (o := .lst [.ref a3]) ha4
      have ea4 : upd I3 a4 (.lst [.ref a3]) a4 = some (.lst [.ref a3]) := upd_same
      have na4 := p6.ne ha4
      revert sa4 ea4
      generalize upd I3 a4 (.lst [.ref a3]) = I4
      intro sa4 ea4
      have p7 := p6.same sa4
      refine ⟨a4, [a3], [(.fl (.str "a"), .int 1)], rfl, SqL.of ea4, .cons ⟨SqT.of (sa4 _ _ ea3), trivial, rfl⟩ .nil, fun a5 ha5 => ?_⟩
      have sa5 := same_new (o := dictO P w a5 (mergeM [] [(.fl (.str "a"), .int 1)])) ha5
      have ea5 : upd I4 a5 (dictO P w a5 (mergeM [] [(.fl (.str "a"), .int 1)])) a5 = some (dictO P w a5 (mergeM [] [(.fl (.str "a"), .int 1)])) := upd_same
      have na5 := p7.ne ha5
      revert sa5 ea5
      generalize upd I4 a5 (dictO P w a5 (mergeM [] [(.fl (.str "a"), .int 1)])) = I5
      intro sa5 ea5
      have p8 := p7.same sa5
      have kk5 := (((((sa0.trans sa1).trans sa2).trans sa3).trans sa4).trans sa5)
      refine ⟨_, rfl, ak, xs, rfl, .inl ⟨SqL.of (kk5 _ _ hak), fun a6 ha6 => ?_⟩⟩
      have sa6 := same_new (o := .tup xs) ha6
      have ea6 : upd I5 a6 (.tup xs) a6 = some (.tup xs) := upd_same
      have na6 := p8.ne ha6
      revert sa6 ea6
      generalize upd I5 a6 (.tup xs) = I6
      intro sa6 ea6
      have p9 := p8.same sa6
      refine ⟨(by show 8 ≤ sizeLine; decide), fun l hl => ?_⟩
      have sl := same_new (o := .lst [.non, .str "abc", .ref a0, .ref a1, .ref a2, .int 5, .ref a5, .ref a6]) hl
      refine ⟨p, l, _, rfl, p9.same sl, upd_same, p9.ne hl, (fun e => by cases e), (by show 8 < 1000000; decide), fun H' v k' p' hv => ⟨_, rfl, _, rfl, (by show 3 ≤ sizeLine; decide), fun tup htup => ?_⟩⟩
      have st := same_new (o := .tup [v, .ref af, .ref ag]) htup
      have kt : Kp p I6 (upd H' tup (.tup [v, .ref af, .ref ag])) := ((Kp.of_s sl).trans k').trans (.of_s st)
      have kx : Kp p H2 (upd H' tup (.tup [v, .ref af, .ref ag])) := (Kp.of_s (kk5.trans sa6)).trans kt
      refine fin _ tup v _ _ kx (p'.same st) upd_same ?_ (S2.fs.same kx) (S2.ms.same kx)
      revert kt kx
      generalize upd H' tup (.tup [v, .ref af, .ref ag]) = HE
      intro kt kx
      have f0 : hide p HE a0 = some (.tup []) := by rw [hide_ne na0]; exact ((Kp.of_s (((((sa1.trans sa2).trans sa3).trans sa4).trans sa5).trans sa6)).trans kt).at na0 ea0
      have f1 : hide p HE a1 = some (.lst []) := by rw [hide_ne na1]; exact ((Kp.of_s ((((sa2.trans sa3).trans sa4).trans sa5).trans sa6)).trans kt).at na1 ea1
      have f2 : hide p HE a2 = some (.dK []) := by rw [hide_ne na2]; exact ((Kp.of_s (((sa3.trans sa4).trans sa5).trans sa6)).trans kt).at na2 ea2
      have f5 : hide p HE a5 = some (dictO P w a5 (mergeM [] [(.fl (.str "a"), .int 1)])) := by rw [hide_ne na5]; exact ((Kp.of_s sa6).trans kt).at na5 ea5
      have f6 : hide p HE a6 = some (.tup xs) := by rw [hide_ne na6]; exact kt.at na6 ea6
      simp only [List.mem_cons, List.not_mem_nil, or_false] at hv
      rcases hv with rfl | rfl | rfl | rfl | rfl | rfl | rfl | rfl
      · exact .inr ⟨_, .non, (fun _ _ e => nomatch e), by unfold Good; decide +kernel, rfl⟩
      · obtain ⟨d, D, nf, g⟩ := g_str (P := P) (w := w) (K := K) (H := hide p HE) (n := 10) (m := 0) (x := "abc") (good_c (by decide +kernel)) (by decide)
        refine .inr ⟨d, D, nf, g.mono (by decide) (by decide), ?_⟩
        cases D
        rfl
      · exact .inr ⟨.tuple [], .tup (SqT.of f0) (Nat.zero_le _) .nil, nf_tup, by unfold Good; decide +kernel, rfl⟩
      · exact .inl ⟨a1, [], rfl, f1, Nat.zero_le _, fun x hx => by cases hx⟩
      · obtain ⟨d, D, nf, g⟩ := g_dict0 (P := P) (w := w) (K := K) (n := 10) (m := 0) f2
        exact .inr ⟨.dict [], .dct (es := []) (.inl ⟨[], .inl f2, rfl⟩) (Nat.zero_le _) (fun p hp => by cases hp) rfl .nil, nf_at f2, by unfold Good; decide +kernel, rfl⟩
      · exact .inr ⟨.int 5, .int 5, (fun _ _ e => nomatch e), by unfold Good; decide +kernel, rfl⟩
      · refine .inr ⟨.dict [(.str "a", .int 1)], .dct (dictO_c (.inl f5)) (by show 1 ≤ big; decide) ?_ rfl (.cons (.int 1) .nil), (fun b ds' eb _ o u => by cases eb; exact dictO_nf f5 o u), by unfold Good; decide +kernel, rfl⟩
        exact fun e he => (mergeM0 (A := fun m => KeyOk K (hide p HE) m) (B := fun _ => True) (fun q hq => by
          rw [List.mem_singleton] at hq
          subst hq
          exact ⟨str_key (n := 10) (good_c (by decide +kernel)) (by decide), trivial⟩) e he).1
      · obtain ⟨ds, D, _, g⟩ := g_tup (l := 5) (SqT.of f6) (fun x hx => (S2.kg x hx).same kx) (by have := S2.kl; omega) (by decide)
        exact .inr ⟨_, D, nf_tup, g.mono (by omega) (by decide), rfl⟩
    rw [show decide (V.int wy = V.int 0) = false by simp [w0]]
    refine iteF ?_
    -- way 1
    refine ⟨_, rfl, rfl, _, rfl, ?_⟩
    by_cases w1 : wy = 1
    · rw [show decide (V.int wy = V.int 1) = true by simp [w1]]
      refine iteT ?_
      have hkl := S2.kl
      refine ⟨_, rfl, _, rfl, ak, xs, rfl, .inl (SqL.of hak), _, _, rfl, rfl, p, _, rfl, p2, by omega, by omega, fun H3 at' k3 p3 ha0 ha1 => ?_⟩
      obtain ⟨j, rfl⟩ : ∃ j : Nat, at' = j := ⟨at'.toNat, (Int.toNat_of_nonneg ha0).symm⟩
      have hj : j ≤ xs.length := by omega
      have hak3 := k3.at akp hak
      refine ⟨_, rfl, _, rfl, _, rfl, ak, xs, rfl, SqL.of hak3, fun a0 ha0 => ?_⟩
      rw [cut_take hj]
      have sa0 := same_new (o := .lst (xs.take j)) ha0
      have ea0 : upd H3 a0 (.lst (xs.take j)) a0 = some (.lst (xs.take j)) := upd_same
      have na0 := p3.ne ha0
      revert sa0 ea0
      generalize upd H3 a0 (.lst (xs.take j)) = I0
      intro sa0 ea0
      have p4 := p3.same sa0
      refine ⟨_, rfl, _, rfl, p, rfl, p4, fun I1 v k4 p5 gv => ?_⟩
      have kI1 : Kp p H3 I1 := (Kp.of_s sa0).trans k4
      have hak4 := kI1.at akp hak3
      obtain ⟨x0, xr, ex⟩ : ∃ x0 xr, xs = x0 :: xr := by
        cases xs with
        | nil => exact absurd rfl S2.kne
        | cons a b => exact ⟨a, b, rfl⟩
      refine ⟨_, rfl, ak, _, _, x0, rfl, rfl, SqL.of hak4, by rw [ex]; exact atI_nat (xs := x0 :: xr) (j := 0) rfl, (by show 3 ≤ sizeLine; decide), fun a1 ha1 => ?_⟩
      have sa1 := same_new (o := .lst [v, x0, .str "spare"]) ha1
      have ea1 : upd I1 a1 (.lst [v, x0, .str "spare"]) a1 = some (.lst [v, x0, .str "spare"]) := upd_same
      have na1 := p5.ne ha1
      revert sa1 ea1
      generalize upd I1 a1 (.lst [v, x0, .str "spare"]) = I2
      intro sa1 ea1
      have p6 := p5.same sa1
      refine ⟨p, a1, _, rfl, p6, ea1, na1, (fun e => by cases e), (by show 3 < 1000000; decide), fun I3 u k5 p7 hu => ?_⟩
      refine ⟨(by show 1 ≤ sizeLine; decide), fun a2 ha2 => ?_⟩
      have sa2 := same_new (o := .lst [u]) ha2
      have ea2 : upd I3 a2 (.lst [u]) a2 = some (.lst [u]) := upd_same
      have na2 := p7.ne ha2
      revert sa2 ea2
      generalize upd I3 a2 (.lst [u]) = I4
      intro sa2 ea2
      have p8 := p7.same sa2
      have h0I4 : I4 a0 = some (.lst (xs.take j)) := ((k4.trans (.of_s sa1)).trans (k5.trans (.of_s sa2))).at na0 ea0
      refine ⟨a0, a2, _, _, rfl, rfl, h0I4, ea2, (by rw [List.length_take, sizeLine_eq]; show min j xs.length + 1 ≤ _; omega), fun a3 ha3 => ?_⟩
      have sa3 := same_new (o := .lst (xs.take j ++ [u])) ha3
      have ea3 : upd I4 a3 (.lst (xs.take j ++ [u])) a3 = some (.lst (xs.take j ++ [u])) := upd_same
      have na3 := p8.ne ha3
      revert sa3 ea3
      generalize upd I4 a3 (.lst (xs.take j ++ [u])) = I5
      intro sa3 ea3
      have p9 := p8.same sa3
      have kI5 : Kp p H3 I5 := (((kI1.trans (.of_s sa1)).trans k5).trans (.of_s sa2)).trans (.of_s sa3)
      refine ⟨_, rfl, _, rfl, _, _, rfl, rfl, _, rfl, ak, xs, rfl, SqL.of (kI5.at akp hak3), fun a4 ha4 => ?_⟩
      rw [show ((j : Int) + 1) = ((j + 1 : Nat) : Int) by omega, cut_drop]
      have sa4 := same_new (o := .lst (xs.drop (j + 1))) ha4
      have ea4 : upd I5 a4 (.lst (xs.drop (j + 1))) a4 = some (.lst (xs.drop (j + 1))) := upd_same
      have na4 := p9.ne ha4
      revert sa4 ea4
      generalize upd I5 a4 (.lst (xs.drop (j + 1))) = I6
      intro sa4 ea4
      have p10 := p9.same sa4
      refine ⟨a3, a4, _, _, rfl, rfl, sa4 _ _ ea3, ea4, (by rw [List.length_append, List.length_take, List.length_drop, sizeLine_eq]; show min j xs.length + 1 + (xs.length - (j + 1)) ≤ _; omega), fun a5 ha5 => ?_⟩
      have sa5 := same_new (o := .lst (xs.take j ++ [u] ++ xs.drop (j + 1))) ha5
      have ea5 : upd I6 a5 (.lst (xs.take j ++ [u] ++ xs.drop (j + 1))) a5 = some (.lst (xs.take j ++ [u] ++ xs.drop (j + 1))) := upd_same
      have na5 := p10.ne ha5
      revert sa5 ea5
      generalize upd I6 a5 (.lst (xs.take j ++ [u] ++ xs.drop (j + 1))) = I7
      intro sa5 ea5
      have p11 := p10.same sa5
      refine ⟨_, rfl, _, rfl, (by show 3 ≤ sizeLine; decide), fun tup htup => ?_⟩
      have st := same_new (o := .tup [.ref a5, .ref af, .ref ag]) htup
      have kx : Kp p H2 (upd I7 tup (.tup [.ref a5, .ref af, .ref ag])) := ((k3.trans kI5).trans (.of_s (sa4.trans sa5))).trans (.of_s st)
      have kv1 : Kp p I1 (upd I7 tup (.tup [.ref a5, .ref af, .ref ag])) := ((((Kp.of_s sa1).trans k5).trans (.of_s (sa2.trans sa3))).trans (.of_s (sa4.trans sa5))).trans (.of_s st)
      refine fin _ tup _ _ _ kx (p11.same st) upd_same (.inl ⟨a5, _, rfl, by rw [hide_ne na5]; exact st _ _ ea5, ?_, ?_⟩) (S2.fs.same kx) (S2.ms.same kx)
      · rw [List.length_append, List.length_append, List.length_take, List.length_drop]
        show min j xs.length + 1 + (xs.length - (j + 1)) ≤ _
        omega
      · have gold : ∀ x ∈ xs, G P w K (hide p (upd I7 tup (.tup [.ref a5, .ref af, .ref ag]))) (11 + t) 3 x := fun x hx => ((S2.kg x hx).same kx).mono (by omega) (Nat.le_refl _)
        intro x hx
        rcases List.mem_append.mp hx with hx | hx
        · rcases List.mem_append.mp hx with hx | hx
          · exact gold x (List.mem_of_mem_take hx)
          · rw [List.mem_singleton] at hx
            subst hx
            simp only [List.mem_cons, List.not_mem_nil, or_false] at hu
            rcases hu with rfl | rfl | rfl
            · exact (gv.same (Same.trans sub_le kv1)).mono (by omega) (Nat.le_refl _)
            · exact gold x (by rw [ex]; exact List.mem_cons_self)
            · exact (g_str (n := 10) (m := 0) (good_c (by decide +kernel)) (by decide)).mono (by omega) (by decide)
        · exact gold x (List.mem_of_mem_drop hx)
    rw [show decide (V.int wy = V.int 1) = false by simp [w1]]
    refine iteF ?_
    -- way 2
    have hkh : (fl.map fun r => (K4.s r.1, r.2)).map flX = (flD fl).map flK := by simp [flD, flX, flK, Function.comp_def, kV, K4.v]
    have dvh : ∀ {Hx : Hp}, Kp p H2 Hx → DictV P w Hx af ((fl.map fun r => (K4.s r.1, r.2)).map flX) := fun k => .inl ⟨flD fl, .inl (k.at afp haf), hkh⟩
    have goodh : ∀ q ∈ (fl.map fun r => (K4.s r.1, r.2)), q.1.good = true := fun q hq => by
      obtain ⟨r, _, rfl⟩ := List.mem_map.mp hq
      rfl
    have hfl := S2.fll
    refine ⟨_, rfl, rfl, _, rfl, ?_⟩
    by_cases w2 : wy = 2
    · rw [show decide (V.int wy = V.int 2) = true by simp [w2]]
      refine iteT ?_
      refine ⟨_, rfl, _, rfl, (by show 0 ≤ sizeLine; decide), fun a0 ha0 => ?_⟩
      have sa0 := same_new (o := .tup []) ha0
      have ea0 : upd H2 a0 (.tup []) a0 = some (.tup []) := upd_same
      have na0 := p2.ne ha0
      revert sa0 ea0
      generalize upd H2 a0 (.tup []) = I0
      intro sa0 ea0
      have p3 := p2.same sa0
      refine ⟨(by show 0 ≤ sizeLine; decide), fun a1 ha1 => ?_⟩
      have sa1 := same_new (o := .lst []) ha1
      have ea1 : upd I0 a1 (.lst []) a1 = some (.lst []) := upd_same
      have na1 := p3.ne ha1
      revert sa1 ea1
      generalize upd I0 a1 (.lst []) = I1
      intro sa1 ea1
      have p4 := p3.same sa1
      refine ⟨_, rfl, af, _, rfl, dvh (.of_s (sa0.trans sa1)), goodh, fun I2 a2 ts k2 ha2 hts hnot ea2 hpr => ?_⟩
      have sa2 : Same I1 I2 := k2
      have na2 := p4.ne ha2
      have p5 := p4.same sa2
      intro a3 ha3
      have sa3 := same_new (o := .dK []) ha3
      have ea3 : upd I2 a3 (.dK []) a3 = some (.dK []) := upd_same
      have na3 := p5.ne ha3
      revert sa3 ea3
      generalize upd I2 a3 (.dK []) = I3
      intro sa3 ea3
      have p6 := p5.same sa3
      refine ⟨(by show 7 ≤ sizeLine; decide), fun l hl => ?_⟩
      have sl := same_new (o := .lst [.non, .ref a0, .ref a1, .str "", .ref a2, .bl true, .ref a3]) hl
      refine ⟨p, l, _, rfl, p6.same sl, upd_same, p6.ne hl, (fun e => by cases e), (by show 7 < 1000000; decide), fun H' v k' p' hv => ⟨_, rfl, (by show 3 ≤ sizeLine; decide), fun tup htup => ?_⟩⟩
      have st := same_new (o := .tup [.ref ak, v, .ref ag]) htup
      have kt : Kp p I3 (upd H' tup (.tup [.ref ak, v, .ref ag])) := ((Kp.of_s sl).trans k').trans (.of_s st)
      have kx : Kp p H2 (upd H' tup (.tup [.ref ak, v, .ref ag])) := (Kp.of_s (((sa0.trans sa1).trans sa2).trans sa3)).trans kt
      refine fin _ tup _ v _ kx (p'.same st) upd_same (S2.ks.same kx) ?_ (S2.ms.same kx)
      revert kt kx
      generalize upd H' tup (.tup [.ref ak, v, .ref ag]) = HE
      intro kt kx
      have f0 : hide p HE a0 = some (.tup []) := by rw [hide_ne na0]; exact ((Kp.of_s ((sa1.trans sa2).trans sa3)).trans kt).at na0 ea0
      have f1 : hide p HE a1 = some (.lst []) := by rw [hide_ne na1]; exact ((Kp.of_s (sa2.trans sa3)).trans kt).at na1 ea1
      have k2E : Kp p I2 HE := (Kp.of_s sa3).trans kt
      have f2 : hide p HE a2 = some (.lst (ts.map V.ref)) := by rw [hide_ne na2]; exact k2E.at na2 ea2
      have f3 : hide p HE a3 = some (.dK []) := by rw [hide_ne na3]; exact kt.at na3 ea3
      simp only [List.mem_cons, List.not_mem_nil, or_false] at hv
      rcases hv with rfl | rfl | rfl | rfl | rfl | rfl | rfl
      · exact .inr ⟨_, .non, (fun _ _ e => nomatch e), by unfold Good; decide +kernel, rfl⟩
      · exact .inr ⟨.tuple [], .tup (SqT.of f0) (Nat.zero_le _) .nil, nf_tup, by unfold Good; decide +kernel, rfl⟩
      · exact .inr ⟨.list [], .lst (SqL.of f1) (Nat.zero_le _) .nil, nf_list, by unfold Good; decide +kernel, rfl⟩
      · exact .inr ⟨.str "", .str _ (by decide +kernel), (fun _ _ e => nomatch e), by unfold Good; decide +kernel, rfl⟩
      · have hitem : ∀ x ∈ ts.map V.ref, G P w K (hide p HE) 402 6 x := fun x hx => by
          obtain ⟨tt, htt, rfl⟩ := List.mem_map.mp hx
          obtain ⟨q, hq, eq⟩ := paired_mem hpr htt
          obtain ⟨r, hr, rfl⟩ := List.mem_map.mp hq
          have hne : tt ≠ p := pot_tup p5 eq
          refine (g_tupA (n := 200) (m := 5) (l := 2) (SqT.of (show hide p HE tt = some (.tup [.str r.1, r.2]) by rw [hide_ne hne]; exact k2E.at hne eq)) (fun y hy => ?_) (by show 2 ≤ 2; decide) (by decide)).mono (by decide) (by decide)
          simp only [List.mem_cons, List.not_mem_nil, or_false] at hy
          rcases hy with rfl | rfl
          · exact (g_str (n := 8) (m := 0) (name_good (S2.fnm r hr)) (by decide)).mono (by decide) (by decide)
          · obtain ⟨d, D, nf, g, _⟩ := ((S2.fr r hr).1.same kx)
            exact ⟨d, D, nf, g⟩
        have hlen : ts.length = fl.length := by have := Paired.length hpr; simpa using this
        obtain ⟨ds, D, g⟩ := g_list (l := 8) (SqL.of f2) hitem (by rw [List.length_map]; omega) (by decide)
        exact .inr ⟨_, D, nf_list, g.mono (by decide) (by decide), rfl⟩
      · exact .inr ⟨.bool true, .bl true, (fun _ _ e => nomatch e), by unfold Good; decide +kernel, rfl⟩
      · refine .inl ⟨a3, [], rfl, .inl ⟨[], .inl f3, rfl⟩, (fun o u e => by rw [f3] at e; cases e), Nat.zero_le _, fun e he => by cases he⟩
    rw [show decide (V.int wy = V.int 2) = false by simp [w2]]
    refine iteF ?_
    -- way 3
    refine ⟨_, rfl, rfl, _, rfl, ?_⟩
    by_cases w3 : wy = 3
    · rw [show decide (V.int wy = V.int 3) = true by simp [w3]]
      refine iteT ?_
      refine ⟨_, rfl, (by show 1 ≤ sizeLine; decide), fun a0 ha0 => ?_⟩
      have sa0 := same_new (o := .tup [.str "a"]) ha0
      have ea0 : upd H2 a0 (.tup [.str "a"]) a0 = some (.tup [.str "a"]) := upd_same
      have na0 := p2.ne ha0
      revert sa0 ea0
      generalize upd H2 a0 (.tup [.str "a"]) = I0
      intro sa0 ea0
      have p3 := p2.same sa0
      refine ⟨(by show 8 ≤ sizeLine; decide), fun l hl => ?_⟩
      have sl := same_new (o := .lst [.str "A", .str "", .str "abcdefghi", .int 5, .non, .ref a0, .bl true, .str "a1"]) hl
      refine ⟨p, l, _, rfl, p3.same sl, upd_same, p3.ne hl, (fun e => by cases e), (by show 8 < 1000000; decide), fun I1 v k4 p4 hv => ?_⟩
      have k01 : Kp p I0 I1 := (Kp.of_s sl).trans k4
      have k21 : Kp p H2 I1 := (Kp.of_s sa0).trans k01
      have f0 : I1 a0 = some (.tup [.str "a"]) := k01.at na0 ea0
      obtain ⟨m, emv, hmok, hmn, hmg⟩ : ∃ m : MK, m.v = v ∧ (m = .tp a0 "a" ∨ ∃ u, m = .fl u) ∧ m.n.isSome = true ∧ Good 10 3 m.d := by
        simp only [List.mem_cons, List.not_mem_nil, or_false] at hv
        rcases hv with rfl | rfl | rfl | rfl | rfl | rfl | rfl | rfl
        · exact ⟨.fl _, rfl, .inr ⟨_, rfl⟩, rfl, by unfold Good; decide +kernel⟩
        · exact ⟨.fl _, rfl, .inr ⟨_, rfl⟩, rfl, by unfold Good; decide +kernel⟩
        · exact ⟨.fl _, rfl, .inr ⟨_, rfl⟩, rfl, by unfold Good; decide +kernel⟩
        · exact ⟨.fl _, rfl, .inr ⟨_, rfl⟩, rfl, by unfold Good; decide +kernel⟩
        · exact ⟨.fl _, rfl, .inr ⟨_, rfl⟩, rfl, by unfold Good; decide +kernel⟩
        · exact ⟨.tp a0 "a", rfl, .inl rfl, rfl, show Good 10 3 (.tuple [.str "a"]) from by unfold Good; decide +kernel⟩
        · exact ⟨.fl _, rfl, .inr ⟨_, rfl⟩, rfl, by unfold Good; decide +kernel⟩
        · exact ⟨.fl _, rfl, .inr ⟨_, rfl⟩, rfl, by unfold Good; decide +kernel⟩
      have mok : ∀ {Hx : Hp}, Hx a0 = some (.tup [.str "a"]) → m.ok K Hx := fun e => by
        rcases hmok with rfl | ⟨u, rfl⟩
        · exact SqT.of e
        · trivial
      refine ⟨_, rfl, _, rfl, af, _, rfl, dvh k21, goodh, fun I2 a2 ts k2 ha2 hts hnot ea2 hpr => ?_⟩
      have sa2 : Same I1 I2 := k2
      have p5 := p4.same sa2
      have hak2 : I2 ak = some (.lst xs) := sa2 _ _ (k21.at akp hak)
      obtain ⟨x0, xr, ex⟩ : ∃ x0 xr, xs = x0 :: xr := by
        cases xs with
        | nil => exact absurd rfl S2.kne
        | cons a b => exact ⟨a, b, rfl⟩
      have hat0 : atI xs 0 = some x0 := by rw [ex]; exact atI_nat (xs := x0 :: xr) (j := 0) rfl
      refine ⟨_, rfl, _, rfl, ak, _, _, x0, rfl, rfl, SqL.of hak2, hat0, _, rfl, ak, _, _, x0, rfl, rfl, SqL.of hak2, hat0, (by show 4 ≤ sizeLine; decide), fun a3 ha3 => ?_⟩
      have sa3 := same_new (o := .tup [x0, x0, .non, .bl true]) ha3
      have ea3 : upd I2 a3 (.tup [x0, x0, .non, .bl true]) a3 = some (.tup [x0, x0, .non, .bl true]) := upd_same
      have na3 := p5.ne ha3
      revert sa3 ea3
      generalize upd I2 a3 (.tup [x0, x0, .non, .bl true]) = I3
      intro sa3 ea3
      have p6 := p5.same sa3
      refine ⟨(by show 2 ≤ sizeLine; decide), fun a4 ha4 => ?_⟩
      have sa4 := same_new (o := .tup [v, .ref a3]) ha4
      have ea4 : upd I3 a4 (.tup [v, .ref a3]) a4 = some (.tup [v, .ref a3]) := upd_same
      have na4 := p6.ne ha4
      revert sa4 ea4
      generalize upd I3 a4 (.tup [v, .ref a3]) = I4
      intro sa4 ea4
      have p7 := p6.same sa4
      refine ⟨(by show 1 ≤ sizeLine; decide), fun a5 ha5 => ?_⟩
      have sa5 := same_new (o := .lst [.ref a4]) ha5
      have ea5 : upd I4 a5 (.lst [.ref a4]) a5 = some (.lst [.ref a4]) := upd_same
      have na5 := p7.ne ha5
      revert sa5 ea5
      generalize upd I4 a5 (.lst [.ref a4]) = I5
      intro sa5 ea5
      have p8 := p7.same sa5
      have k25 : Same I2 I5 := (sa3.trans sa4).trans sa5
      have hlen : ts.length = fl.length := by have := Paired.length hpr; simpa using this
      refine ⟨a2, a5, _, _, rfl, rfl, k25 _ _ ea2, ea5, (by rw [List.length_map, hlen, sizeLine_eq]; show fl.length + 1 ≤ _; omega), fun a6 ha6 => ?_⟩
      have sa6 := same_new (o := .lst (ts.map V.ref ++ [.ref a4])) ha6
      have ea6 : upd I5 a6 (.lst (ts.map V.ref ++ [.ref a4])) a6 = some (.lst (ts.map V.ref ++ [.ref a4])) := upd_same
      have na6 := p8.ne ha6
      revert sa6 ea6
      generalize upd I5 a6 (.lst (ts.map V.ref ++ [.ref a4])) = I6
      intro sa6 ea6
      have p9 := p8.same sa6
      have k26 := k25.trans sa6
      have e6' : I6 a6 = some (.lst ((ts ++ [a4]).map V.ref)) := by rw [ea6, List.map_append]; rfl
      have hprs : Paired (fun p kv => SqT K I6 p [kv.1.v, kv.2] ∧ kv.1.ok K I6 ∧ kv.1.n.isSome = true) (ts ++ [a4]) ((fl.map fun r => (K4.s r.1, r.2)).map flX ++ [(m, .ref a3)]) := by
        refine paired_app (paired_flX (paired_imp hpr fun tt q e => ⟨k26 _ _ e, trivial⟩)) (.cons ⟨?_, mok (k26 _ _ (sa2 _ _ f0)), hmn⟩ .nil)
        rw [emv]
        exact SqT.of ((sa5.trans sa6) _ _ ea4)
      refine ⟨a6, ts ++ [a4], _, rfl, SqL.of e6', hprs, fun a7 ha7 => ?_⟩
      have sa7 := same_new (o := dictO P w a7 (mergeM [] ((fl.map fun r => (K4.s r.1, r.2)).map flX ++ [(m, .ref a3)]))) ha7
      have ea7 : upd I6 a7 (dictO P w a7 (mergeM [] ((fl.map fun r => (K4.s r.1, r.2)).map flX ++ [(m, .ref a3)]))) a7 = some (dictO P w a7 (mergeM [] ((fl.map fun r => (K4.s r.1, r.2)).map flX ++ [(m, .ref a3)]))) := upd_same
      have na7 := p9.ne ha7
      revert sa7 ea7
      generalize upd I6 a7 (dictO P w a7 (mergeM [] ((fl.map fun r => (K4.s r.1, r.2)).map flX ++ [(m, .ref a3)]))) = I7
      intro sa7 ea7
      have p10 := p9.same sa7
      refine ⟨_, rfl, (by show 3 ≤ sizeLine; decide), fun tup htup => ?_⟩
      have st := same_new (o := .tup [.ref ak, .ref a7, .ref ag]) htup
      have kx : Kp p H2 (upd I7 tup (.tup [.ref ak, .ref a7, .ref ag])) := (k21.trans (.of_s ((sa2.trans k26).trans sa7))).trans (.of_s st)
      refine fin _ tup _ _ _ kx (p10.same st) upd_same (S2.ks.same kx) ?_ (S2.ms.same kx)
      have f3 : hide p (upd I7 tup (.tup [.ref ak, .ref a7, .ref ag])) a3 = some (.tup [x0, x0, .non, .bl true]) := by rw [hide_ne na3]; exact ((((sa4.trans sa5).trans sa6).trans sa7).trans st) _ _ ea3
      have f7 : hide p (upd I7 tup (.tup [.ref ak, .ref a7, .ref ag])) a7 = some (dictO P w a7 (mergeM [] ((fl.map fun r => (K4.s r.1, r.2)).map flX ++ [(m, .ref a3)]))) := by rw [hide_ne na7]; exact st _ _ ea7
      have fa0 : hide p (upd I7 tup (.tup [.ref ak, .ref a7, .ref ag])) a0 = some (.tup [.str "a"]) := by rw [hide_ne na0]; exact (((sa2.trans k26).trans sa7).trans st) _ _ f0
      revert f3 f7 fa0 kx
      generalize upd I7 tup (.tup [.ref ak, .ref a7, .ref ag]) = HE
      intro kx f3 f7 fa0
      have gx0 : G P w K (hide p HE) (10 + t) 3 x0 := (S2.kg x0 (by rw [ex]; exact List.mem_cons_self)).same kx
      refine .inl ⟨a7, _, rfl, dictO_c (.inl f7), dictO_nf f7, ?_, ?_⟩
      · have := mergeM_length ((fl.map fun r => (K4.s r.1, r.2)).map flX ++ [(m, .ref a3)]) []
        simp only [List.length_append, List.length_map, List.length_nil, List.length_singleton] at this
        omega
      · refine fun e he => ?_
        have z := mergeM0 (A := fun m => KeyOk K (hide p HE) m ∧ Good (11 + t) 3 m.d) (B := fun v => RV P w K (hide p HE) (11 + t) v) (fun q hq => ?_) e he
        · exact ⟨z.1.1, z.1.2, z.2⟩
        · rcases List.mem_append.mp hq with hq | hq
          · obtain ⟨q', hq', rfl⟩ := List.mem_map.mp hq
            obtain ⟨r, hr, rfl⟩ := List.mem_map.mp hq'
            have g := name_good (S2.fnm r hr)
            exact ⟨⟨str_key g (by decide), g.mono (by omega) (by decide)⟩, ((S2.fr r hr).1.same kx).mono (by omega)⟩
          · rw [List.mem_singleton] at hq
            subst hq
            refine ⟨⟨⟨mok fa0, hmn, fun x hx => ?_⟩, hmg.mono (by omega) (Nat.le_refl _)⟩, ?_⟩
            · have h3 := hmg.2.2.1
              have hb : (1000 : Nat) ≤ big := by decide
              rcases hx with hx | hx
              · rw [hx] at h3
                simp only [PyData.weight] at h3
                show x.cps.size ≤ big
                omega
              · rw [hx] at h3
                simp only [PyData.weight, PyData.weightAll] at h3
                show x.cps.size ≤ big
                omega
            · refine (rv_tup (n := 10 + t) (l := 4) (SqT.of f3) (fun y hy => ?_) (by show 4 ≤ 4; decide) (by omega) (by decide)).mono (by omega)
              simp only [List.mem_cons, List.not_mem_nil, or_false] at hy
              rcases hy with rfl | rfl | rfl | rfl
              · exact gx0
              · exact gx0
              · exact g_non
              · exact g_bl _
    rw [show decide (V.int wy = V.int 3) = false by simp [w3]]
    refine iteF ?_
    -- ways 4 and 5
    have dvg : ∀ {Hx : Hp}, Kp p H2 Hx → DictV P w Hx ag (kvs.map flX) := fun k => (dictC_same (Same.trans k hide_le) S2.g).v
    have hgl := S2.gl
    have hkl := S2.kl
    refine ⟨fun σ Hc => Same H2 Hc ∧ σ = [some (.ref p), some (.ref ak), some (.ref af), some (.ref ag), some (.int wy), some (.ref nm), none, none, none, none], ?_, ?_⟩
    · refine ⟨_, rfl, _, _, rfl, rfl, _, rfl, ?_⟩
      by_cases w6' : ¬ wy < 6
      · rw [decide_eq_false w6']
        exact iteF (iteF ⟨Same.refl _, rfl⟩)
      have w6 : wy < 6 := Classical.not_not.mp w6'
      rw [decide_eq_true w6]
      refine iteT ⟨_, rfl, fun a0 ha0 => ?_⟩
      have sa0 := same_new (o := .dK []) ha0
      have ea0 : upd H2 a0 (.dK []) a0 = some (.dK []) := upd_same
      have na0 := p2.ne ha0
      revert sa0 ea0
      generalize upd H2 a0 (.dK []) = I0
      intro sa0 ea0
      have p3 := p2.same sa0
      refine ⟨af, a0, _, rfl, rfl, .inl (sa0 _ _ haf), .inl ea0, _, rfl, ?_⟩
      cases hfe : fl with
      | nil => exact iteF ⟨sa0, rfl⟩
      | cons r0 rs =>
      rw [← hfe]
      rw [show (!(flD fl).isEmpty) = true by rw [hfe]; rfl]
      refine iteT ?_
      have hne : ((srt (fl.map (·.1))).map V.str) ≠ [] := fun e => by
        have := congrArg List.length e
        rw [List.length_map, srt_length, List.length_map, hfe] at this
        simp at this
      refine ⟨_, rfl, _, rfl, af, _, fl.map (·.1), rfl, .inl (sa0 _ _ haf), flD_keys fl, hlk, fun a1 ha1 => ?_⟩
      have sa1 := same_new (o := .lst ((srt (fl.map (·.1))).map V.str)) ha1
      have ea1 : upd I0 a1 (.lst ((srt (fl.map (·.1))).map V.str)) a1 = some (.lst ((srt (fl.map (·.1))).map V.str)) := upd_same
      have na1 := p3.ne ha1
      revert sa1 ea1
      generalize upd I0 a1 (.lst ((srt (fl.map (·.1))).map V.str)) = I1
      intro sa1 ea1
      have p4 := p3.same sa1
      refine ⟨p, a1, _, rfl, p4, ea1, na1, hne, (by rw [List.length_map, srt_length]; omega), fun I2 v k5 p5 hv => ?_⟩
      obtain ⟨z, hz, rfl⟩ := List.mem_map.mp hv
      obtain ⟨r, hr, rfl⟩ := List.mem_map.mp (srt_mem.mp hz)
      have k22 : Kp p H2 I2 := (Kp.of_s (sa0.trans sa1)).trans k5
      have S3 := S2.kp k22 p5
      obtain ⟨_, tt, z0, y1, y2, y3, er, hsq, hg, _⟩ := S3.fr r hr
      have haf2 := k22.at afp haf
      have dg : DGet I2 af (.str r.1) (some (.ref tt)) := by
        have q := dget_rd (z := r.1) (H := I2) (a := af) (.inl haf2)
        rw [flD_val S2.fnd hr, er] at q
        exact q
      have hnm2 : hide p I2 nm = some (.lst ns) := by rw [hide_ne nmp]; exact k22.at nmp hnm
      refine ⟨_, rfl, _, rfl, _, rfl, _, rfl, af, _, rfl, dg, _, rfl, p, tt, nm, 10 + t, z0, y1, y2, y3, ns, rfl, p5, by omega, by omega, hsq, hg, hnm2, hnl, (fun x hx => by
        obtain ⟨b, rfl, g⟩ := hns x hx
        exact (g_str (m := 0) g (by omega)).mono (Nat.le_refl _) (by decide)), fun I3 u k6 p6 rv => ⟨(by show 2 ≤ sizeLine; decide), fun a2 ha2 => ?_⟩⟩
      have sa2 := same_new (o := .tup [.str r.1, u]) ha2
      have ea2 : upd I3 a2 (.tup [.str r.1, u]) a2 = some (.tup [.str r.1, u]) := upd_same
      have na2 := p6.ne ha2
      revert sa2 ea2
      generalize upd I3 a2 (.tup [.str r.1, u]) = I4
      intro sa2 ea2
      have p7 := p6.same sa2
      refine ⟨(by show 1 ≤ sizeLine; decide), fun a3 ha3 => ?_⟩
      have sa3 := same_new (o := .lst [.ref a2]) ha3
      have ea3 : upd I4 a3 (.lst [.ref a2]) a3 = some (.lst [.ref a2]) := upd_same
      have na3 := p7.ne ha3
      revert sa3 ea3
      generalize upd I4 a3 (.lst [.ref a2]) = I5
      intro sa3 ea3
      have p8 := p7.same sa3
      have k25 : Kp p H2 I5 := (k22.trans k6).trans (.of_s (sa2.trans sa3))
      have haf5 := k25.at afp haf
      refine ⟨_, rfl, ?_⟩
      refine ⟨af, .dK (flD fl), haf5, trivial, fun od => ?_⟩
      have hU : DictU P w af (.dK (flD fl)) ((flD fl).map flK) := .inl ⟨_, rfl, rfl⟩
      refine ⟨_, rfl, af, od, _, _, rfl, upd_same, hU, fun D hD => ?_⟩
      have hl1 : ((flD fl).map flK).length = fl.length := by simp [flD]
      refine lc_it (walk_keysX hU) (fun i Hx => Same (upd I5 af (.frz od (.dK (flD fl)))) Hx ∧ ∃ (ts : List Addr) (qs : List (Str × V)), Hx D = some (.lst (ts.map V.ref)) ∧ ts.length ≤ i ∧ Paired (fun tt q => Hx tt = some (.tup [.str q.1, q.2])) ts qs ∧ ∀ q ∈ qs, q ∈ fl) ⟨same_new hD, [], [], upd_same, Nat.le_refl _, .nil, (fun q hq => by cases hq)⟩ (fun i Hx _ h => h.1 _ _ upd_same) ?_ ?_
      · rintro i x Hx Hy hi ⟨kx, ts, qs, hDx, htl, hpr, hqs⟩ ⟨rfl, m, v', hm, rfl⟩
        obtain ⟨q, hq, rfl, rfl⟩ : ∃ q ∈ fl, m = .fl (.str q.1) ∧ v' = q.2 := by
          have := List.mem_of_getElem? hm
          obtain ⟨q1, hq1, e1⟩ := List.mem_map.mp this
          obtain ⟨q2, hq2, e2⟩ := List.mem_map.mp hq1
          subst e2
          exact ⟨q2, hq2, (congrArg Prod.fst e1).symm, (congrArg Prod.snd e1).symm⟩
        have dg2 : DGet Hy af (.str q.1) (some q.2) := by
          have z := dget_rd (z := q.1) (H := Hy) (a := af) (kvs := flD fl) (.inr ⟨od, kx af _ upd_same⟩)
          rw [flD_val S2.fnd hq] at z
          exact z
        refine ⟨rfl, _, rfl, _, rfl, rfl, _, rfl, ?_⟩
        show ite ((!decide (V.str q.1 = V.str r.1)) = true) _ _
        by_cases hqe : q.1 = r.1
        · rw [show (!decide (V.str q.1 = V.str r.1)) = false by simp [hqe]]
          exact iteF ⟨kx, ts, qs, hDx, by omega, hpr, hqs⟩
        · rw [show (!decide (V.str q.1 = V.str r.1)) = true by simp [hqe]]
          refine iteT ⟨_, rfl, _, rfl, _, rfl, af, _, rfl, dg2, (by show 2 ≤ sizeLine; decide), fun tn htn => ?_⟩
          have hDn : D ≠ tn := ne_of_none hDx htn
          refine ⟨ts.map V.ref, by rw [upd_ne hDn]; exact hDx, by rw [List.length_map, sizeLine_eq]; omega, same_mut (kx.trans (same_new htn)) hD, ts ++ [tn], qs ++ [q], by rw [upd_same, List.map_append]; rfl, by rw [List.length_append]; show ts.length + 1 ≤ i + 1; omega, paired_app (paired_imp hpr fun a b e => ?_) (.cons ?_ .nil), fun x hx => ?_⟩
          · rw [upd_ne (fun z => by rw [z, hDx] at e; cases e), upd_ne (ne_of_none e htn)]
            exact e
          · rw [upd_ne (Ne.symm hDn)]
            exact upd_same
          · rcases List.mem_append.mp hx with hx | hx
            · exact hqs x hx
            · rw [List.mem_singleton] at hx
              rw [hx]
              exact hq
      · rintro Hx ⟨kx, ts, qs, hDx, htl, hpr, hqs⟩
        have hDa : D ≠ af := fun e => by rw [e, upd_same] at hD; cases hD
        refine ⟨kx _ _ upd_same, ?_⟩
        have s6 : Same I5 (upd Hx af (.dK (flD fl))) := same_unlock haf5 kx
        have eD : upd Hx af (.dK (flD fl)) D = some (.lst (ts.map V.ref)) := by rw [upd_ne hDa]; exact hDx
        have hpr' : Paired (fun tt q => upd Hx af (.dK (flD fl)) tt = some (.tup [.str q.1, q.2])) ts qs := paired_imp hpr fun a b e => by
          rw [upd_ne (fun z => by rw [z, kx af _ upd_same] at e; cases e)]
          exact e
        revert s6 eD hpr'
        generalize upd Hx af (.dK (flD fl)) = I6
        intro s6 eD hpr'
        have p9 := p8.same s6
        refine ⟨_, rfl, D, a3, _, _, rfl, rfl, eD, s6 _ _ ea3, (by rw [List.length_map, sizeLine_eq]; show ts.length + 1 ≤ _; omega), fun a6 ha6 => ?_⟩
        have sa6 := same_new (o := .lst (ts.map V.ref ++ [.ref a2])) ha6
        have ea6 : upd I6 a6 (.lst (ts.map V.ref ++ [.ref a2])) a6 = some (.lst (ts.map V.ref ++ [.ref a2])) := upd_same
        have na6 := p9.ne ha6
        revert sa6 ea6
        generalize upd I6 a6 (.lst (ts.map V.ref ++ [.ref a2])) = I7
        intro sa6 ea6
        have p10 := p9.same sa6
        have e6' : I7 a6 = some (.lst ((ts ++ [a2]).map V.ref)) := by rw [ea6, List.map_append]; rfl
        have hprs : Paired (fun p kv => SqT K I7 p [kv.1.v, kv.2] ∧ kv.1.ok K I7 ∧ kv.1.n.isSome = true) (ts ++ [a2]) ((qs.map fun q => (K4.s q.1, q.2)).map flX ++ [(.fl (.str r.1), u)]) := by
          refine paired_app (paired_flX (paired_map2 (paired_imp hpr' fun tt q e => sa6 _ _ e))) (.cons ⟨SqT.of ((s6.trans sa6) _ _ (sa3 _ _ ea2)), trivial, rfl⟩ .nil)
        refine ⟨a6, ts ++ [a2], _, rfl, SqL.of e6', hprs, fun a7 ha7 => ?_⟩
        have sa7 := same_new (o := dictO P w a7 (mergeM [] ((qs.map fun q => (K4.s q.1, q.2)).map flX ++ [(.fl (.str r.1), u)]))) ha7
        have ea7 : upd I7 a7 (dictO P w a7 (mergeM [] ((qs.map fun q => (K4.s q.1, q.2)).map flX ++ [(.fl (.str r.1), u)]))) a7 = some (dictO P w a7 (mergeM [] ((qs.map fun q => (K4.s q.1, q.2)).map flX ++ [(.fl (.str r.1), u)]))) := upd_same
        have na7 := p10.ne ha7
        revert sa7 ea7
        generalize upd I7 a7 (dictO P w a7 (mergeM [] ((qs.map fun q => (K4.s q.1, q.2)).map flX ++ [(.fl (.str r.1), u)]))) = I8
        intro sa7 ea7
        have p11 := p10.same sa7
        refine ⟨_, rfl, (by show 3 ≤ sizeLine; decide), fun tup htup => ?_⟩
        have st := same_new (o := .tup [.ref ak, .ref a7, .ref ag]) htup
        have kx2 : Kp p H2 (upd I8 tup (.tup [.ref ak, .ref a7, .ref ag])) := (k25.trans (.of_s ((s6.trans sa6).trans sa7))).trans (.of_s st)
        have ku : Kp p I3 (upd I8 tup (.tup [.ref ak, .ref a7, .ref ag])) := (Kp.of_s ((((sa2.trans sa3).trans s6).trans sa6).trans sa7)).trans (.of_s st)
        refine fin _ tup _ _ _ kx2 (p11.same st) upd_same (S2.ks.same kx2) ?_ (S2.ms.same kx2)
        have f7 : hide p (upd I8 tup (.tup [.ref ak, .ref a7, .ref ag])) a7 = some (dictO P w a7 (mergeM [] ((qs.map fun q => (K4.s q.1, q.2)).map flX ++ [(.fl (.str r.1), u)]))) := by rw [hide_ne na7]; exact st _ _ ea7
        revert f7 kx2 ku
        generalize upd I8 tup (.tup [.ref ak, .ref a7, .ref ag]) = HE
        intro kx2 ku f7
        have hql : qs.length = ts.length := (Paired.length hpr).symm
        rw [hl1] at htl
        refine .inl ⟨a7, _, rfl, dictO_c (.inl f7), dictO_nf f7, ?_, ?_⟩
        · have := mergeM_length ((qs.map fun q => (K4.s q.1, q.2)).map flX ++ [(.fl (.str r.1), u)]) []
          simp only [List.length_append, List.length_map, List.length_nil, List.length_singleton] at this
          omega
        · refine fun e he => ?_
          have z := mergeM0 (A := fun m => KeyOk K (hide p HE) m ∧ Good (11 + t) 3 m.d) (B := fun v => RV P w K (hide p HE) (11 + t) v) (fun q hq => ?_) e he
          · exact ⟨z.1.1, z.1.2, z.2⟩
          · rcases List.mem_append.mp hq with hq | hq
            · obtain ⟨q', hq', rfl⟩ := List.mem_map.mp hq
              obtain ⟨q2, hq2, rfl⟩ := List.mem_map.mp hq'
              have g := name_good (S2.fnm q2 (hqs q2 hq2))
              exact ⟨⟨str_key g (by decide), g.mono (by omega) (by decide)⟩, ((S2.fr q2 (hqs q2 hq2)).1.same kx2).mono (by omega)⟩
            · rw [List.mem_singleton] at hq
              subst hq
              have g := name_good (S2.fnm r hr)
              exact ⟨⟨str_key g (by decide), g.mono (by omega) (by decide)⟩, (rv.same ku).mono (by omega)⟩
    rintro _ H3 ⟨s3, rfl⟩
    have S3 := S2.kp (.of_s s3) (p2.same s3)
    have p3 := S3.hp
    have hak3 := s3 _ _ hak
    have hnm3 := s3 _ _ hnm
    -- way 6
    refine ⟨_, rfl, rfl, _, rfl, ?_⟩
    by_cases w6 : wy = 6
    · rw [show decide (V.int wy = V.int 6) = true by simp [w6]]
      refine iteT ?_
      refine ⟨_, rfl, _, rfl, _, rfl, (by show 0 ≤ sizeLine; decide), fun a0 ha0 => ?_⟩
      have sa0 := same_new (o := .lst []) ha0
      have ea0 : upd H3 a0 (.lst []) a0 = some (.lst []) := upd_same
      have na0 := p3.ne ha0
      revert sa0 ea0
      generalize upd H3 a0 (.lst []) = I0
      intro sa0 ea0
      have p4 := p3.same sa0
      refine ⟨(by show 1 ≤ sizeLine; decide), fun a1 ha1 => ?_⟩
      have sa1 := same_new (o := .tup [.non]) ha1
      have ea1 : upd I0 a1 (.tup [.non]) a1 = some (.tup [.non]) := upd_same
      have na1 := p4.ne ha1
      revert sa1 ea1
      generalize upd I0 a1 (.tup [.non]) = I1
      intro sa1 ea1
      have p5 := p4.same sa1
      refine ⟨(by show 1 ≤ sizeLine; decide), fun a2 ha2 => ?_⟩
      have sa2 := same_new (o := .tup [.str "a"]) ha2
      have ea2 : upd I1 a2 (.tup [.str "a"]) a2 = some (.tup [.str "a"]) := upd_same
      have na2 := p5.ne ha2
      revert sa2 ea2
      generalize upd I1 a2 (.tup [.str "a"]) = I2
      intro sa2 ea2
      have p6 := p5.same sa2
      refine ⟨_, rfl, ag, kvs, rfl, dvg (.of_s (((s3.trans sa0).trans sa1).trans sa2)), (fun q hq => (S2.gk q hq).1), fun I3 a3 ts k3' ha3 hts hnot ea3 hpr => ?_⟩
      have sa3 : Same I2 I3 := k3'
      have na3 := p6.ne ha3
      have p7 := p6.same sa3
      intro a4 ha4
      have sa4 := same_new (o := .dK []) ha4
      have ea4 : upd I3 a4 (.dK []) a4 = some (.dK []) := upd_same
      have na4 := p7.ne ha4
      revert sa4 ea4
      generalize upd I3 a4 (.dK []) = I4
      intro sa4 ea4
      have p8 := p7.same sa4
      refine ⟨(by show 9 ≤ sizeLine; decide), fun l hl => ?_⟩
      have sl := same_new (o := .lst [.non, .ref a0, .str "", .ref a1, .ref a2, .ref a3, .bl false, .int 0, .ref a4]) hl
      refine ⟨p, l, _, rfl, p8.same sl, upd_same, p8.ne hl, (fun e => by cases e), (by show 9 < 1000000; decide), fun H' v k' p' hv => ⟨(by show 3 ≤ sizeLine; decide), fun tup htup => ?_⟩⟩
      have st := same_new (o := .tup [.ref ak, .ref af, v]) htup
      have kt : Kp p I4 (upd H' tup (.tup [.ref ak, .ref af, v])) := ((Kp.of_s sl).trans k').trans (.of_s st)
      have kx : Kp p H2 (upd H' tup (.tup [.ref ak, .ref af, v])) := (Kp.of_s (((((s3.trans sa0).trans sa1).trans sa2).trans sa3).trans sa4)).trans kt
      refine fin _ tup _ _ v kx (p'.same st) upd_same (S2.ks.same kx) (S2.fs.same kx) ?_
      revert kt kx
      generalize upd H' tup (.tup [.ref ak, .ref af, v]) = HE
      intro kt kx
      have f0 : hide p HE a0 = some (.lst []) := by rw [hide_ne na0]; exact ((Kp.of_s (((sa1.trans sa2).trans sa3).trans sa4)).trans kt).at na0 ea0
      have f1 : hide p HE a1 = some (.tup [.non]) := by rw [hide_ne na1]; exact ((Kp.of_s ((sa2.trans sa3).trans sa4)).trans kt).at na1 ea1
      have f2 : hide p HE a2 = some (.tup [.str "a"]) := by rw [hide_ne na2]; exact ((Kp.of_s (sa3.trans sa4)).trans kt).at na2 ea2
      have k3E : Kp p I3 HE := (Kp.of_s sa4).trans kt
      have f3 : hide p HE a3 = some (.lst (ts.map V.ref)) := by rw [hide_ne na3]; exact k3E.at na3 ea3
      have f4 : hide p HE a4 = some (.dK []) := by rw [hide_ne na4]; exact kt.at na4 ea4
      simp only [List.mem_cons, List.not_mem_nil, or_false] at hv
      rcases hv with rfl | rfl | rfl | rfl | rfl | rfl | rfl | rfl | rfl
      · exact .inr ⟨_, .non, (fun _ _ e => nomatch e), by unfold Good; decide +kernel, rfl⟩
      · exact .inr ⟨.list [], .lst (SqL.of f0) (Nat.zero_le _) .nil, nf_list, by unfold Good; decide +kernel, rfl⟩
      · exact .inr ⟨.str "", .str _ (by decide +kernel), (fun _ _ e => nomatch e), by unfold Good; decide +kernel, rfl⟩
      · exact .inr ⟨.tuple [.none], .tup (SqT.of f1) (by show 1 ≤ big; decide) (.cons .non .nil), nf_tup, by unfold Good; decide +kernel, rfl⟩
      · exact .inr ⟨.tuple [.str "a"], .tup (SqT.of f2) (by show 1 ≤ big; decide) (.cons (.str _ (by decide +kernel)) .nil), nf_tup, by unfold Good; decide +kernel, rfl⟩
      · have hitem : ∀ x ∈ ts.map V.ref, G P w K (hide p HE) 402 6 x := fun x hx => by
          obtain ⟨tt, htt, rfl⟩ := List.mem_map.mp hx
          obtain ⟨q, hq, eq⟩ := paired_mem hpr htt
          have hne : tt ≠ p := pot_tup p7 eq
          obtain ⟨q1, q2, q3⟩ := S2.gk q hq
          refine (g_tupA (n := 200) (m := 5) (l := 2) (SqT.of (show hide p HE tt = some (.tup [q.1.v, q.2]) by rw [hide_ne hne]; exact k3E.at hne eq)) (fun y hy => ?_) (by show 2 ≤ 2; decide) (by decide)).mono (by decide) (by decide)
          simp only [List.mem_cons, List.not_mem_nil, or_false] at hy
          rcases hy with rfl | rfl
          · exact ⟨_, key_dpC (k4_key q1 q2 (by omega)), (by
              intro b ds' eb
              exfalso
              revert eb
              show K4.v q.1 = V.ref b → False
              generalize q.1 = kk
              intro eb
              cases kk <;> cases eb), q2.mono (by omega) (by decide)⟩
          · exact (q3.same kx).mono (by omega) (by decide)
        have hlen : ts.length = kvs.length := Paired.length hpr
        obtain ⟨ds, D, g⟩ := g_list (l := 8) (SqL.of f3) hitem (by rw [List.length_map]; omega) (by decide)
        exact .inr ⟨_, D, nf_list, g.mono (by decide) (by decide), rfl⟩
      · exact .inr ⟨.bool false, .bl false, (fun _ _ e => nomatch e), by unfold Good; decide +kernel, rfl⟩
      · exact .inr ⟨.int 0, .int 0, (fun _ _ e => nomatch e), by unfold Good; decide +kernel, rfl⟩
      · refine .inl ⟨a4, [], rfl, .inl ⟨[], .inl f4, rfl⟩, (fun o u e => by rw [f4] at e; cases e), Nat.zero_le _, fun e he => by cases he⟩
    rw [show decide (V.int wy = V.int 6) = false by simp [w6]]
    refine iteF ?_
    -- the last way
    refine ⟨_, rfl, _, rfl, _, rfl, (by show 7 ≤ sizeLine; decide), fun a0 ha0 => ?_⟩
    have sa0 := same_new (o := .lst [.str "A", .str "", .str "abcdefghi", .str "spare", .non, .int 5, .bl true]) ha0
    have ea0 : upd H3 a0 (.lst [.str "A", .str "", .str "abcdefghi", .str "spare", .non, .int 5, .bl true]) a0 = some (.lst [.str "A", .str "", .str "abcdefghi", .str "spare", .non, .int 5, .bl true]) := upd_same
    have na0 := p3.ne ha0
    revert sa0 ea0
    generalize upd H3 a0 (.lst [.str "A", .str "", .str "abcdefghi", .str "spare", .non, .int 5, .bl true]) = I0
    intro sa0 ea0
    have p4 := p3.same sa0
    refine ⟨p, a0, _, rfl, p4, ea0, na0, (fun e => by cases e), (by show 7 < 1000000; decide), fun I1 v1 k5 p5 hv1 => ?_⟩
    refine ⟨(by show 1 ≤ sizeLine; decide), fun a1 ha1 => ?_⟩
    have sa1 := same_new (o := .lst [v1]) ha1
    have ea1 : upd I1 a1 (.lst [v1]) a1 = some (.lst [v1]) := upd_same
    have na1 := p5.ne ha1
    revert sa1 ea1
    generalize upd I1 a1 (.lst [v1]) = I2
    intro sa1 ea1
    have p6 := p5.same sa1
    have k02 : Kp p H3 I2 := ((Kp.of_s sa0).trans k5).trans (.of_s sa1)
    refine ⟨nm, a1, _, _, rfl, rfl, k02.at nmp hnm3, ea1, (by rw [sizeLine_eq]; simp; omega), fun a2 ha2 => ?_⟩
    have sa2 := same_new (o := .lst (ns ++ [v1])) ha2
    have ea2 : upd I2 a2 (.lst (ns ++ [v1])) a2 = some (.lst (ns ++ [v1])) := upd_same
    have na2 := p6.ne ha2
    revert sa2 ea2
    generalize upd I2 a2 (.lst (ns ++ [v1])) = I3
    intro sa2 ea2
    have p7 := p6.same sa2
    refine ⟨p, a2, _, rfl, p7, ea2, na2, (by simp), (by simp; omega), fun I4 v k6 p8 hv => ?_⟩
    have k34 : Kp p H3 I4 := (k02.trans (.of_s sa2)).trans k6
    obtain ⟨q0, eq0, gq0, gd0⟩ : ∃ q : K4, q.v = v ∧ q.good = true ∧ Good (11 + t) 3 (MK.fl q.v).d := by
      rcases List.mem_append.mp hv with hv | hv
      · obtain ⟨b, rfl, g⟩ := hns v hv
        exact ⟨.s b, rfl, rfl, g.mono (by omega) (by decide)⟩
      · rw [List.mem_singleton] at hv
        subst hv
        have up : ∀ {q : K4}, Good 10 3 (MK.fl q.v).d → Good (11 + t) 3 (MK.fl q.v).d := fun g => g.mono (by omega) (Nat.le_refl _)
        simp only [List.mem_cons, List.not_mem_nil, or_false] at hv1
        rcases hv1 with rfl | rfl | rfl | rfl | rfl | rfl | rfl
        · exact ⟨.s "A", rfl, rfl, up (by unfold Good; decide +kernel)⟩
        · exact ⟨.s "", rfl, rfl, up (by unfold Good; decide +kernel)⟩
        · exact ⟨.s "abcdefghi", rfl, rfl, up (by unfold Good; decide +kernel)⟩
        · exact ⟨.s "spare", rfl, rfl, up (by unfold Good; decide +kernel)⟩
        · exact ⟨.n, rfl, rfl, up (by unfold Good; decide +kernel)⟩
        · exact ⟨.i 5, rfl, rfl, up (by unfold Good; decide +kernel)⟩
        · exact ⟨.t, rfl, rfl, up (by unfold Good; decide +kernel)⟩
    have k24 : Kp p H2 I4 := (Kp.of_s s3).trans k34
    refine ⟨_, rfl, _, rfl, _, rfl, ag, kvs, rfl, dvg k24, (fun q hq => (S2.gk q hq).1), fun I5 a3 ts k3' ha3 hts hnot ea3 hpr => ?_⟩
    have sa3 : Same I4 I5 := k3'
    have p9 := p8.same sa3
    have k25 := k24.trans (.of_s sa3)
    refine ⟨_, rfl, _, rfl, _, rfl, _, rfl, p, rfl, p9, fun I6 vo k7 p10 go => ?_⟩
    refine ⟨(by show 1 ≤ sizeLine; decide), fun a4 ha4 => ?_⟩
    have sa4 := same_new (o := .lst [vo]) ha4
    have ea4 : upd I6 a4 (.lst [vo]) a4 = some (.lst [vo]) := upd_same
    have na4 := p10.ne ha4
    revert sa4 ea4
    generalize upd I6 a4 (.lst [vo]) = I7
    intro sa4 ea4
    have p11 := p10.same sa4
    have k27 : Kp p H2 I7 := (k25.trans k7).trans (.of_s sa4)
    refine ⟨ak, a4, _, _, rfl, rfl, k27.at akp hak, ea4, (by rw [sizeLine_eq]; show xs.length + 1 ≤ _; omega), fun a5 ha5 => ?_⟩
    have sa5 := same_new (o := .lst (xs ++ [vo])) ha5
    have ea5 : upd I7 a5 (.lst (xs ++ [vo])) a5 = some (.lst (xs ++ [vo])) := upd_same
    have na5 := p11.ne ha5
    revert sa5 ea5
    generalize upd I7 a5 (.lst (xs ++ [vo])) = I8
    intro sa5 ea5
    have p12 := p11.same sa5
    refine ⟨p, a5, _, rfl, p12, ea5, na5, (by simp), (by rw [List.length_append]; show xs.length + 1 < _; omega), fun I9 u k8 p13 hu => ?_⟩
    refine ⟨(by show 2 ≤ sizeLine; decide), fun a6 ha6 => ?_⟩
    have sa6 := same_new (o := .tup [v, u]) ha6
    have ea6 : upd I9 a6 (.tup [v, u]) a6 = some (.tup [v, u]) := upd_same
    have na6 := p13.ne ha6
    revert sa6 ea6
    generalize upd I9 a6 (.tup [v, u]) = J0
    intro sa6 ea6
    have p14 := p13.same sa6
    refine ⟨(by show 1 ≤ sizeLine; decide), fun a7 ha7 => ?_⟩
    have sa7 := same_new (o := .lst [.ref a6]) ha7
    have ea7 : upd J0 a7 (.lst [.ref a6]) a7 = some (.lst [.ref a6]) := upd_same
    have na7 := p14.ne ha7
    revert sa7 ea7
    generalize upd J0 a7 (.lst [.ref a6]) = J1
    intro sa7 ea7
    have p15 := p14.same sa7
    have k5J : Kp p I5 J1 := (((k7.trans (.of_s sa4)).trans (.of_s sa5)).trans k8).trans (.of_s (sa6.trans sa7))
    have na3 := p8.ne ha3
    have hlen : ts.length = kvs.length := Paired.length hpr
    refine ⟨a3, a7, _, _, rfl, rfl, k5J.at na3 ea3, ea7, (by rw [List.length_map, hlen, sizeLine_eq]; show kvs.length + 1 ≤ _; omega), fun a8 ha8 => ?_⟩
    have sa8 := same_new (o := .lst (ts.map V.ref ++ [.ref a6])) ha8
    have ea8 : upd J1 a8 (.lst (ts.map V.ref ++ [.ref a6])) a8 = some (.lst (ts.map V.ref ++ [.ref a6])) := upd_same
    have na8 := p15.ne ha8
    revert sa8 ea8
    generalize upd J1 a8 (.lst (ts.map V.ref ++ [.ref a6])) = J2
    intro sa8 ea8
    have p16 := p15.same sa8
    have e8' : J2 a8 = some (.lst ((ts ++ [a6]).map V.ref)) := by rw [ea8, List.map_append]; rfl
    have k5J2 : Kp p I5 J2 := k5J.trans (.of_s sa8)
    have hprs : Paired (fun p kv => SqT K J2 p [kv.1.v, kv.2] ∧ kv.1.ok K J2 ∧ kv.1.n.isSome = true) (ts ++ [a6]) (kvs.map flX ++ [(.fl q0.v, u)]) := by
      refine paired_app (paired_flX (paired_imp hpr fun tt q e => ⟨k5J2.at (pot_tup p9 e) e, trivial⟩)) (.cons ⟨?_, trivial, by cases q0 <;> rfl⟩ .nil)
      show SqT K J2 a6 [q0.v, u]
      rw [eq0]
      exact SqT.of ((sa7.trans sa8) _ _ ea6)
    refine ⟨a8, ts ++ [a6], _, rfl, SqL.of e8', hprs, fun a9 ha9 => ?_⟩
    have sa9 := same_new (o := dictO P w a9 (mergeM [] (kvs.map flX ++ [(.fl q0.v, u)]))) ha9
    have ea9 : upd J2 a9 (dictO P w a9 (mergeM [] (kvs.map flX ++ [(.fl q0.v, u)]))) a9 = some (dictO P w a9 (mergeM [] (kvs.map flX ++ [(.fl q0.v, u)]))) := upd_same
    have na9 := p16.ne ha9
    revert sa9 ea9
    generalize upd J2 a9 (dictO P w a9 (mergeM [] (kvs.map flX ++ [(.fl q0.v, u)]))) = J3
    intro sa9 ea9
    have p17 := p16.same sa9
    refine ⟨(by show 3 ≤ sizeLine; decide), fun tup htup => ?_⟩
    have st := same_new (o := .tup [.ref ak, .ref af, .ref a9]) htup
    have kx : Kp p H2 (upd J3 tup (.tup [.ref ak, .ref af, .ref a9])) := (k25.trans k5J2).trans (.of_s (sa9.trans st))
    have ko : Kp p I6 (upd J3 tup (.tup [.ref ak, .ref af, .ref a9])) := ((((Kp.of_s sa4).trans (.of_s sa5)).trans k8).trans (.of_s ((sa6.trans sa7).trans sa8))).trans (.of_s (sa9.trans st))
    refine fin _ tup _ _ _ kx (p17.same st) upd_same (S2.ks.same kx) (S2.fs.same kx) ?_
    have f9 : hide p (upd J3 tup (.tup [.ref ak, .ref af, .ref a9])) a9 = some (dictO P w a9 (mergeM [] (kvs.map flX ++ [(.fl q0.v, u)]))) := by rw [hide_ne na9]; exact st _ _ ea9
    revert f9 kx ko
    generalize upd J3 tup (.tup [.ref ak, .ref af, .ref a9]) = HE
    intro kx ko f9
    have gu : G P w K (hide p HE) (11 + t) 3 u := by
      rcases List.mem_append.mp hu with hu | hu
      · exact ((S2.kg u hu).same kx).mono (by omega) (Nat.le_refl _)
      · rw [List.mem_singleton] at hu
        subst hu
        exact (go.same (Same.trans sub_le ko)).mono (by omega) (Nat.le_refl _)
    obtain ⟨kn, ekn, hkn⟩ := k4_list (A := fun k => k.good = true ∧ Good (11 + t) 3 (MK.fl k.v).d) (B := fun v => G P w K (hide p HE) (11 + t) 3 v) (es := mergeM [] (kvs.map flX ++ [(.fl q0.v, u)])) (fun e he => by
      refine mergeM0 (A := fun m => ∃ k : K4, (k.good = true ∧ Good (11 + t) 3 (MK.fl k.v).d) ∧ m = .fl k.v) (B := fun v => G P w K (hide p HE) (11 + t) 3 v) (fun q hq => ?_) e he
      rcases List.mem_append.mp hq with hq | hq
      · obtain ⟨q', hq', rfl⟩ := List.mem_map.mp hq
        obtain ⟨g1, g2, g3⟩ := S2.gk q' hq'
        exact ⟨⟨q'.1, ⟨g1, g2.mono (by omega) (Nat.le_refl _)⟩, rfl⟩, (g3.same kx).mono (by omega) (Nat.le_refl _)⟩
      · rw [List.mem_singleton] at hq
        subst hq
        exact ⟨⟨q0, ⟨gq0, gd0⟩, rfl⟩, gu⟩)
    have f9' := dictO_c (.inl f9)
    rw [ekn] at f9'
    refine .inl ⟨a9, kn, rfl, f9', dictO_nf f9, ?_, fun q hq => ⟨(hkn q hq).1.1, (hkn q hq).1.2, (hkn q hq).2⟩⟩
    have := mergeM_length (kvs.map flX ++ [(.fl q0.v, u)]) []
    rw [ekn] at this
    simp only [List.length_append, List.length_map, List.length_nil, List.length_singleton] at this
    omega
end

end K17
end
section
set_option Elab.async false
set_option linter.all false
set_option maxRecDepth 100000
set_option maxHeartbeats 4000000
/-! EK16: defs in whose body repr is called; a mixed dict's keys differ -/
namespace L2
open PySem PySem.Spec PyProof.Rows PySem.EK
theorem calG_of {P : Program} {w : World} {K : PySem.W.Frag} {mg : Str → Option Value} {base : Heap} {CX : CXT} {x : Str} {st : Stmt} {N ps : List Str} {k : Nat} {sp : Sp} (h : Def K mg x st) (S : FnScope N ps (defScope st)) (len : ∀ vs H Q E, sp vs H Q E → vs.length = ps.length)
    (hb : ∀ (kV doc pm : Value) (an : Option Addr) (cdv ct : Value) (us : List Value), us.length = ps.length → bindArgs (PySem.W.fnOf x x (defArgs st) (defBody st) (defScope st) .none kV doc pm an cdv ct) ⟨us, []⟩ = pure (ps.zip us))
    (hbody : ∀ (f : Addr) (cdv : Value) (A : Around) (outer : List Env) (s : Shared) (H : Hp) (vs : List V) (Q : VK) (E : XK), A.guards = some [] → Room k (A.deeper (envOfC x (defScope st) s.heap.objs.size f cdv)) → sp vs H Q E →
      ∃ t, PSs (cxOf CX P w K mg base N x (defScope st) f cdv A outer s H E) (defBody st) t ∧ t { nx := fun _ H' => Q .non H', rt := Q } (start N vs) H) : CalG P w K mg base CX (k + 1) x ps sp := by
  obtain ⟨f, fd, F, m⟩ := h
  refine ⟨f, fd, ?_, m, F.kp, F.bindsN hb⟩
  obtain ⟨oc, od, dV, kV, doc, pm, an, cdv, ct, osl, rfl, lk, hcd, _, _⟩ := F.ex
  exact fnG_of lk hcd S len fun A outer s H vs Q E hg hr hsp => hbody f cdv A outer s H vs Q E hg hr hsp
section
variable {X : Cx}
def tNdX (P : Program) (w : World) (t : TE) : TE := fun σ H Q => t σ H fun x H1 => (∀ a es, x = .ref a → DictV P w H1 a es → (es.map (·.1.n)).Nodup) → Q x H1
theorem pe_ndX {e : Expr} {t : TE} (P : Program) (w : World) (he : PE X e t) (hP : X.prog = P := by rfl) (hw : X.w = w := by rfl) : PE X e (tNdX P w t) := by
  subst hP hw
  refine ⟨fun pins s σ H Q I h => ?_⟩
  refine wpAny_mono (he.run pins s σ H _ I h) (fun u s1 z => ?_) fun _ _ x => x
  obtain ⟨x, H1, I1, rx, q⟩ := z
  refine ⟨x, H1, I1, rx, q fun a es _ hr => ?_⟩
  obtain ⟨⟨o, ep, arr, _, _, _, _, nd⟩, _⟩ := DictV.at I1.hok hr
  exact nd
end
theorem valM_at {es : List (MK × V)} (nd : (es.map (·.1.n)).Nodup) {i : Nat} {m : MK} {v : V} (h : es[i]? = some (m, v)) : valM es m.n = some v := by
  unfold valM
  have hm : (m, v) ∈ es := List.mem_of_getElem? h
  have go : ∀ {es : List (MK × V)}, (es.map (·.1.n)).Nodup → (m, v) ∈ es → (es.find? fun p => decide (p.1.n = m.n)) = some (m, v) := by
    intro es
    induction es with
    | nil => intro _ h; cases h
    | cons e es ih =>
      intro nd h
      rw [List.map_cons, List.nodup_cons] at nd
      rw [List.find?_cons]
      rcases List.mem_cons.mp h with rfl | h
      · simp
      · have hne : ¬ e.1.n = m.n := fun q => nd.1 (by rw [q]; exact List.mem_map.mpr ⟨(m, v), h, rfl⟩)
        simp only [hne, decide_false]
        exact ih nd.2 h
  rw [go nd hm]
  rfl
end L2
end
section
set_option Elab.async false
set_option linter.all false
set_option maxRecDepth 100000
set_option maxHeartbeats 4000000
namespace K17
open PySem PySem.Spec PyProof.Rows L2 PySem.EK
section
variable {P : Program} {w : World} {K : PySem.W.Frag} {H : Hp}
theorem dictV_lock {a : Addr} {u : HO} {od : Obj} {es : List (MK × V)} (h : DictU P w a u es) (ha : H a = some (.frz od u)) : DictV P w H a es := by
  rcases h with ⟨kvs, rfl, e⟩ | rfl
  · exact .inl ⟨kvs, .inr ⟨od, ha⟩, e⟩
  · exact .inr (.inr ⟨od, ha⟩)
theorem dictU_no {a : Addr} {u : HO} {es : List (MK × V)} (h : DictU P w a u es) : (∀ ys, u ≠ .lst ys) ∧ (∀ ys, u ≠ .tup ys) ∧ ∀ o v, u ≠ .frz o v := by
  rcases h with ⟨kvs, rfl, e⟩ | rfl
  · exact ⟨(fun _ z => nomatch z), (fun _ z => nomatch z), (fun _ _ z => nomatch z)⟩
  · exact ⟨(fun _ z => nomatch z), (fun _ z => nomatch z), (fun _ _ z => nomatch z)⟩
theorem sqL_lock {d t : Addr} {u o : HO} {xs : List V} (h : SqL K H t xs) (hd : H d = some u) (hu : ∀ ys, u ≠ .lst ys) (hf : ∀ o v, u ≠ .frz o v) : SqL K (upd H d o) t xs := by
  rcases h with (h | ⟨q, h⟩) | h
  · refine .inl (.inl ?_)
    rw [upd_ne]
    · exact h
    · rintro rfl
      rw [hd] at h
      cases h
      exact hu _ rfl
  · refine .inl (.inr ⟨q, ?_⟩)
    rw [upd_ne]
    · exact h
    · rintro rfl
      rw [hd] at h
      cases h
      exact hf _ _ rfl
  · exact .inr h
theorem rd_lock {d b : Addr} {u x : HO} {od : Obj} (hd : H d = some u) (hf : ∀ o v, u ≠ .frz o v) (h : Rd H b x) : Rd (upd H d (.frz od u)) b x := by
  by_cases hb : b = d
  · subst hb
    rcases h with h | ⟨q, h⟩
    · rw [hd] at h
      cases h
      exact .inr ⟨od, upd_same⟩
    · rw [hd] at h
      cases h
      exact absurd rfl (hf _ _)
  · rcases h with h | ⟨q, h⟩
    · exact .inl (by rw [upd_ne hb]; exact h)
    · exact .inr ⟨q, by rw [upd_ne hb]; exact h⟩
theorem dictC_lock {d b : Addr} {u : HO} {od : Obj} {es : List (MK × V)} (hd : H d = some u) (hf : ∀ o v, u ≠ .frz o v) (h : DictC P w H b es) : DictC P w (upd H d (.frz od u)) b es := by
  rcases h with ⟨kvs, h, e⟩ | ⟨h, e⟩
  · exact .inl ⟨kvs, rd_lock hd hf h, e⟩
  · exact .inr ⟨rd_lock hd hf h, e⟩
mutual
theorem dpC_lock {a : Addr} {u : HO} {od : Obj} (hd : H a = some u) (h1 : ∀ ys, u ≠ .lst ys) (h2 : ∀ ys, u ≠ .tup ys) (h3 : ∀ o v, u ≠ .frz o v) : ∀ {v : V} {d : PyData}, DpC P w K H v d → DpC P w K (upd H a (.frz od u)) v d
  | _, _, .non => .non
  | _, _, .bl b => .bl b
  | _, _, .int i => .int i
  | _, _, .str x h => .str x h
  | _, _, .lst hs hl ha => .lst (sqL_lock hs hd h1 h3) hl (dpC_lockA hd h1 h2 h3 ha)
  | _, _, .tup hs hl ha => .tup (sqT_lock hs hd h2 h3) hl (dpC_lockA hd h1 h2 h3 ha)
  | _, _, .dct hc hl hk he ha => .dct (dictC_lock hd h3 hc) hl (fun p hp => keyOk_lock (hk p hp) hd h2 h3) he (dpC_lockA hd h1 h2 h3 ha)
theorem dpC_lockA {a : Addr} {u : HO} {od : Obj} (hd : H a = some u) (h1 : ∀ ys, u ≠ .lst ys) (h2 : ∀ ys, u ≠ .tup ys) (h3 : ∀ o v, u ≠ .frz o v) : ∀ {vs : List V} {ds : List PyData}, DpCAll P w K H vs ds → DpCAll P w K (upd H a (.frz od u)) vs ds
  | _, _, .nil => .nil
  | _, _, .cons x y => .cons (dpC_lock hd h1 h2 h3 x) (dpC_lockA hd h1 h2 h3 y)
end
theorem g_dictE {n n' m : Nat} {F : PyData → Prop} : ∀ (es : List (MK × V)), (∀ e ∈ es, Good n m e.1.d) → (∀ e ∈ es, ∃ d, DpC P w K H e.2 d ∧ Good n' m d ∧ F d) → ∃ ds : List (PyData × PyData), ds.map (·.1) = es.map (·.1.d) ∧ DpCAll P w K H (es.map (·.2)) (ds.map (·.2)) ∧ ∀ p ∈ ds, Good n m p.1 ∧ Good n' m p.2 ∧ F p.2
  | [], _, _ => ⟨[], rfl, .nil, fun p hp => by cases hp⟩
  | e :: es, hk, hv => by
    obtain ⟨ds, h1, h2, h3⟩ := g_dictE es (fun x hx => hk x (List.mem_cons_of_mem _ hx)) fun x hx => hv x (List.mem_cons_of_mem _ hx)
    obtain ⟨d, D, g, f⟩ := hv e List.mem_cons_self
    refine ⟨(e.1.d, d) :: ds, by rw [List.map_cons, List.map_cons, h1], .cons D h2, fun p hp => ?_⟩
    rcases List.mem_cons.mp hp with rfl | hp
    · exact ⟨hk e List.mem_cons_self, g, f⟩
    · exact h3 p hp
theorem flD_of : ∀ {kvs : List (Key × V)} {zs : List Str}, kvs.map (·.1) = zs.map Sum.inr → ∃ fl, kvs = flD fl ∧ fl.map (·.1) = zs
  | [], [], _ => ⟨[], rfl, rfl⟩
  | [], _ :: _, e => by cases e
  | _ :: _, [], e => by cases e
  | (k, v) :: kvs, z :: zs, e => by
    have e1 : k = Sum.inr z := (List.cons.inj e).1
    obtain ⟨fl, h1, h2⟩ := flD_of (List.cons.inj e).2
    refine ⟨(z, v) :: fl, ?_, by rw [List.map_cons, h2]⟩
    rw [e1, h1]
    rfl
end
end K17
end
section
set_option Elab.async false
set_option linter.all false
set_option maxRecDepth 100000
set_option maxHeartbeats 4000000
namespace K17
open PySem PySem.Spec PyProof.Rows L2 PySem.EK

abbrev s__law_turn_right : Stmt := top 38
def spTurn (P : Program) (w : World) (K : PySem.W.Frag) : Sp := fun vs H Q _ => ∃ (p sc ak af ag : Addr) (ks N : List Str) (rows : List FR) (gs : List (Str × Str)) (kf : List (Key × V)), vs = [.ref p, .ref sc] ∧ PotAt H p ∧ Drawn ks N rows gs ∧ Scheme P w K (hide p H) sc ak af ag ks kf (kgR gs) (dfR rows) (dgR gs) ∧ ∀ H', Kp p H H' → PotAt H' p → Q (.bl true) H'
def posD : Option Nat → PyData
  | none => .none
  | some i => .int (i : Nat)
def verD : Option Ver → List PyData
  | none => [.str "made"]
  | some (.kinds o) => [.str "kinds", posD o, .bool true]
  | some (.fields o) => [.str "fields", optD o, .bool true]
  | some (.flags o) => [.str "flags", optD o, .bool true]
theorem ver_dp {K : PySem.W.Frag} {H : Hp} (v : Option Ver) : DpAll K H (verL v) (verD v) := by
  have q1 : ∀ o, Dp K H (posV o) (posD o) := fun o => by cases o <;> constructor
  have q2 : ∀ o, Dp K H (nameV o) (optD o) := fun o => by cases o <;> constructor
  match v with
  | none => exact .cons (.str _) .nil
  | some (.kinds o) => exact .cons (.str _) (.cons (q1 o) (.cons (.bl _) .nil))
  | some (.fields o) => exact .cons (.str _) (.cons (q2 o) (.cons (.bl _) .nil))
  | some (.flags o) => exact .cons (.str _) (.cons (q2 o) (.cons (.bl _) .nil))
def VerOk : Option Ver → Prop
  | some (.fields (some z)) => isNameD (.str z) = true
  | some (.flags (some z)) => isNameD (.str z) = true
  | _ => True
theorem goF_mem {ks : List PyData} {ds : List (PyData × PyData)} {z : Str} : ∀ {l taken : List Str}, goF ks ds taken l = some z → z ∈ l
  | [], _, h => by cases h
  | y :: r, taken, h => by
    unfold goF at h
    split at h
    · split at h
      · cases h
        exact List.mem_cons_self
      · exact List.mem_cons_of_mem _ (goF_mem h)
    · cases h
      exact List.mem_cons_self
theorem goG_mem {ks : List PyData} {ls : List Str} {ds : List (PyData × PyData)} {z : Str} : ∀ {l : List Str}, goG ks ls ds l = some z → z ∈ l
  | [], h => by cases h
  | y :: r, h => by
    unfold goG at h
    split at h
    · cases h
      exact List.mem_cons_self
    · exact List.mem_cons_of_mem _ (goG_mem h)
theorem key_name {ds : List (PyData × PyData)} (h : ∀ p ∈ ds, isNameD p.1 = true) {z : Str} (hz : z ∈ keysD ds) : isNameD (.str z) = true := by
  obtain ⟨p, hp, e⟩ := List.mem_filterMap.mp hz
  have := h p hp
  cases hq : p.1 with
  | str y => rw [hq] at e this; cases e; exact this
  | _ => rw [hq] at e; cases e
theorem fields_name {ks : List PyData} {d : PyData} {z : Str} (h : fieldsDue ks d = some (some z)) : isNameD (.str z) = true := by
  cases d with
  | dict ds =>
    cases hn : namesToD 12 (.dict ds) with
    | false => simp only [fieldsDue, hn] at h; cases h
    | true =>
      simp only [fieldsDue, hn, if_true] at h
      obtain ⟨ds', e, _, h2⟩ := names_of hn
      cases e
      cases q : goF ks ds [] (srt (keysD ds)) with
      | none => rw [q] at h; cases h
      | some x =>
        rw [q] at h
        cases h
        exact key_name h2 (srt_mem.mp (goF_mem q))
  | _ => cases h
theorem flags_name {ks : List PyData} {ls : List Str} {d : PyData} {z : Str} (h : flagsDue ks ls d = some (some z)) : isNameD (.str z) = true := by
  cases d with
  | dict ds =>
    cases hn : namesToD 12 (.dict ds) with
    | false => simp only [flagsDue, hn] at h; cases h
    | true =>
      simp only [flagsDue, hn, if_true] at h
      obtain ⟨ds', e, _, h2⟩ := names_of hn
      cases e
      cases q : goG ks ls ds (srt (keysD ds)) with
      | none => rw [q] at h; cases h
      | some x =>
        rw [q] at h
        cases h
        exact key_name h2 (srt_mem.mp (goG_mem q))
  | _ => cases h
theorem due_ok (dk df dg : PyData) : VerOk (dueD dk df dg) := by
  unfold dueD
  cases h1 : kindsDue dk with
  | some o => trivial
  | none =>
    dsimp only
    cases h2 : fieldsDue (seqD dk) df with
    | some o =>
      cases o with
      | none => trivial
      | some z => exact fields_name h2
    | none =>
      dsimp only
      cases h3 : flagsDue2 (seqD dk) (linksD (dictD df)) dg with
      | none => trivial
      | some o =>
        cases o with
        | none => trivial
        | some z =>
          unfold flagsDue2 at h3
          split at h3
          · cases h3
          · exact flags_name h3
theorem name_strOk {z : Str} (h : isNameD (.str z) = true) : PyData.strOk z = true := by
  simp only [isNameD, Bool.and_eq_true, decide_eq_true_eq, List.all_eq_true] at h
  have hL : ∀ c ∈ LL, c < 0x110000 := by decide +kernel
  unfold PyData.strOk
  rw [← Array.all_toList, List.all_eq_true]
  intro c hc
  exact decide_eq_true (hL c (h.2 c hc))
theorem ver_shaped {v : Option Ver} (h : VerOk v) : SeqAt.shaped (.list (verD v)) = true := by
  have c1 : PyData.strOk "made" = true := by decide +kernel
  have c2 : PyData.strOk "kinds" = true := by decide +kernel
  have c3 : PyData.strOk "fields" = true := by decide +kernel
  have c4 : PyData.strOk "flags" = true := by decide +kernel
  match v, h with
  | none, _ => simp [SeqAt.shaped, verD, PyData.canLay0, PyData.canLayAll0, PyData.depth, PyData.depthAll, c1]
  | some (.kinds o), _ => cases o <;> simp [SeqAt.shaped, verD, posD, PyData.canLay0, PyData.canLayAll0, PyData.depth, PyData.depthAll, c2]
  | some (.fields none), _ => simp [SeqAt.shaped, verD, optD, PyData.canLay0, PyData.canLayAll0, PyData.depth, PyData.depthAll, c3]
  | some (.fields (some z)), h => simp [SeqAt.shaped, verD, optD, PyData.canLay0, PyData.canLayAll0, PyData.depth, PyData.depthAll, c3, name_strOk h]
  | some (.flags none), _ => simp [SeqAt.shaped, verD, optD, PyData.canLay0, PyData.canLayAll0, PyData.depth, PyData.depthAll, c4]
  | some (.flags (some z)), h => simp [SeqAt.shaped, verD, optD, PyData.canLay0, PyData.canLayAll0, PyData.depth, PyData.depthAll, c4, name_strOk h]
theorem ver_eqv {v : Option Ver} (h : VerOk v) : PyData.eqv (.list (verD v)) (.list (verD v)) = true := SeqAt.eqv_refl _ (SeqAt.canLay_of_shaped (ver_shaped h))
section
variable {P : Program} {w : World} {K : PySem.W.Frag} {mg : Str → Option Value} {base : Heap}
theorem sc__law_turn_right : FnScope ["_law_pot_here", "_law_scheme_here", "_law_breeds", "_law_heads", "_law_marks", "_law_turn", "_law_wrong", "_law_shown", "_law_due_here", "_law_name"] ["_law_pot_here", "_law_scheme_here"] (defScope s__law_turn_right) := ⟨rfl, rfl, rfl, by decide +kernel, rfl, by decide +kernel, by decide +kernel⟩
theorem c__law_turn_right (h : Def K mg "_law_turn_right" s__law_turn_right) (B : Bl mg) (nsy : NoSys K) (C__law_draw : Cal P w K mg base CX0 1 "_law_draw" ["_law_pot_here", "_law_many"] spDrawP)
    (C__law_spoilt : Cal P w K mg base CX0 5 "_law_spoilt" ["_law_pot_here", "_law_breeds", "_law_heads", "_law_marks"] (spSpoilt P w K))
    (C__law_is_name : Cal P w K mg base CX0 1 "_law_is_name" ["_law_value"] (spName P w K)) (C__law_is_field : Cal P w K mg base CX0 2 "_law_is_field" ["_law_breeds", "_law_value"] (spLField P w K))
    (C__law_due : Cal P w K mg base CX0 4 "_law_due" ["_law_breeds", "_law_heads", "_law_marks"] (spDue P w K)) (C__law_told : Cal P w K mg base CX0 6 "_law_told" ["_law_breeds", "_law_heads", "_law_marks", "_law_is_named"] (spTold P w K)) :
    CalG P w K mg base CX0 7 "_law_turn_right" ["_law_pot_here", "_law_scheme_here"] (spTurn P w K) := by
  refine calG_of h sc__law_turn_right (fun vs H Q E h => ?_) (fun _ _ _ _ _ _ us hl => match us, hl with | [_, _], _ => rfl) (fun f cdv A outer s H vs Q E hgd hr h => ?_)
  · obtain ⟨p, sc, ak, af, ag, ks, N, rows, gs, kf, rfl, _⟩ := h
    rfl
  · obtain ⟨p, sc, ak, af, ag, ks, N, rows, gs, kf, rfl, hp, dr, S, hQ⟩ := h
    refine ⟨_, PSs.nox (pss_cons (ps_asg (pe_tup (pa_cons (pe_callTy call_list_of (by rfl) B.list (by decide +kernel) (pa_cons (pe_dget (un_of hr) (pv 1) pe_str (fun _ _ => rfl)) pa_nil)) (pa_cons (pe_callTy call_dictD (by rfl) B.dict (by decide +kernel) (pa_cons (pe_dget (un_of hr) (pv 1) pe_str (fun _ _ => rfl)) pa_nil)) pa_nil))) (pg_tup (by rfl) (pgs_cons (pg_name (i := 2) sc__law_turn_right.nd rfl (Or.inr rfl)) (pgs_cons (pg_name (i := 3) sc__law_turn_right.nd rfl (Or.inr rfl)) pgs_nil))))
      (pss_cons (ps_set (i := 4) sc__law_turn_right.nd rfl (Or.inl rfl) (pe_callTy call_dictD (by rfl) B.dict (by decide +kernel) (pa_cons (pe_dget (un_of hr) (pv 1) pe_str (fun _ _ => rfl)) pa_nil)))
      (C8.pss_cut (ps_for PassesOwn.never rfl (pi_range1 (by rfl) B.range (pa_cons (pe_c C__law_draw hr pass0 (pa_cons (pv 0) (pa_cons pe_int pa_nil))) pa_nil)) (pg_name (i := 5) sc__law_turn_right.nd rfl (Or.inl rfl)) (pss_one (ps_if (PW.pt (pw_and (pt_val (pe_callB call_isA (by rfl) B.isinstance (by decide +kernel) (pa_cons (pv 2) (pa_cons (pe_bltn (v := .ty "list") (by rfl) B.list PyProof.Rows.Boot.«list» rfl) pa_nil)))) (pw_and (pt_cmpR (op_neL0 (Nat.lt_of_le_of_lt (Nat.le_add_right _ 1) (un_of hr))) (pv 2) (pe_lst pa_nil) (nomark _)) (pw_and (pt_val (pe_callB call_isA (by rfl) B.isinstance (by decide +kernel) (pa_cons (pv 3) (pa_cons (pe_bltn (v := .ty "dict") (by rfl) B.dict PyProof.Rows.Boot.«dict» rfl) pa_nil)))) (pw_and1 (pt_val (pe_callB call_isA (by rfl) B.isinstance (by decide +kernel) (pa_cons (pv 4) (pa_cons (pe_bltn (v := .ty "dict") (by rfl) B.dict PyProof.Rows.Boot.«dict» rfl) pa_nil))))))))) (pss_cons (ps_lock (ps_setLc (i := 6) (own := [("_law_name", 9)]) (by rfl) sc__law_turn_right.nd rfl rfl (sw_true rfl rfl rfl (by decide +kernel)) (pi_keysX (pe_ndX P w (pv 3))) (blkOk_by (own := [("_law_name", 9)]) (N := ["_law_pot_here", "_law_scheme_here", "_law_breeds", "_law_heads", "_law_marks", "_law_turn", "_law_wrong", "_law_shown", "_law_due_here", "_law_name"]) (sc := defScope s__law_turn_right) (by decide +kernel)) (fun _ _ _ _ _ => (pg_name (i := 9) sc__law_turn_right.nd rfl (Or.inl rfl))) (fun _ _ _ _ _ => pts_one (PW.pt (pw_or (pt_not (pt_val (pe_c C__law_is_name hr pass0 (pa_cons (pv 9) pa_nil)))) (pw_or1 (pt_not (pt_val (pe_c C__law_is_field hr pass0 (pa_cons (pv 2) (pa_cons (pe_dgetK P w K hr (pv 3) (pv 9) (fun _ _ => rfl)) pa_nil))))))))) (fun _ _ _ _ _ => (pv 9))))
      (pss_one (ps_if (pt_cmpR (op_eqL0 (Nat.lt_of_le_of_lt (Nat.le_add_right _ 1) (un_of hr))) (pv 6) (pe_lst pa_nil) (nomark _)) (pss_one (ps_asg (pe_c C__law_spoilt hr pass0 (pa_cons (pv 0) (pa_cons (pv 2) (pa_cons (pv 3) (pa_cons (pv 4) pa_nil))))) (pg_tup (by rfl) (pgs_cons (pg_name (i := 2) sc__law_turn_right.nd rfl (Or.inr rfl)) (pgs_cons (pg_name (i := 3) sc__law_turn_right.nd rfl (Or.inr rfl)) (pgs_cons (pg_name (i := 4) sc__law_turn_right.nd rfl (Or.inl rfl)) pgs_nil)))))) pss_nil))) pss_nil)))
      (pss_cons (ps_set (i := 7) sc__law_turn_right.nd rfl (Or.inl rfl) (pe_callB (call_reprX hgd hr nsy) (by rfl) B.repr (by decide +kernel) (pa_cons (pe_tup (pa_cons (pv 2) (pa_cons (pv 3) (pa_cons (pv 4) pa_nil)))) pa_nil)))
      (pss_cons (ps_set (i := 8) sc__law_turn_right.nd rfl (Or.inl rfl) (pe_c C__law_due hr pass0 (pa_cons (pv 2) (pa_cons (pv 3) (pa_cons (pv 4) pa_nil)))))
      (pss_cons (ps_for PassesOwn.never rfl (pi_range1 (by rfl) B.range (pa_cons pe_int pa_nil)) (pg_name (i := 5) sc__law_turn_right.nd rfl (Or.inl rfl)) (pss_one (ps_if (pt_cmpR (op_neD (un_of hr)) (pe_c C__law_told hr pass0 (pa_cons (pv 2) (pa_cons (pv 3) (pa_cons (pv 4) (pa_cons (pe_cmpR op_eq (pv 5) pe_int (nomark _)) pa_nil))))) (pv 8) (nomark _)) (pss_one (ps_ret pe_bl)) pss_nil)))
      (pss_one (ps_ret (pe_cmpR op_eq (pe_callB (call_reprX hgd hr nsy) (by rfl) B.repr (by decide +kernel) (pa_cons (pe_tup (pa_cons (pv 2) (pa_cons (pv 3) (pa_cons (pv 4) pa_nil)))) pa_nil)) (pv 7) (nomark _)))))))))), ?_⟩
    have SH := S.same hide_le
    refine ⟨_, rfl, sc, _, rfl, SH.get1, ak, _, rfl, .inl (SqL.of SH.k), fun a0 ha0 => ?_⟩
    have sa0 := same_new (o := .lst (ks.map V.str)) ha0
    have ea0 : upd H a0 (.lst (ks.map V.str)) a0 = some (.lst (ks.map V.str)) := upd_same
    have na0 := hp.ne ha0
    revert sa0 ea0
    generalize upd H a0 (.lst (ks.map V.str)) = I0
    intro sa0 ea0
    have p1 := hp.same sa0
    refine ⟨_, rfl, sc, _, rfl, (SH.same sa0).get2, af, kf, rfl, .inl (sa0 _ _ SH.f), fun a1 ha1 => ?_⟩
    have sa1 := same_new (o := .dK kf) ha1
    have ea1 : upd I0 a1 (.dK kf) a1 = some (.dK kf) := upd_same
    have na1 := p1.ne ha1
    revert sa1 ea1
    generalize upd I0 a1 (.dK kf) = I1
    intro sa1 ea1
    have p2 := p1.same sa1
    refine ⟨(by show 2 ≤ sizeLine; decide), fun a2 ha2 => ?_⟩
    have sa2 := same_new (o := .tup [.ref a0, .ref a1]) ha2
    have ea2 : upd I1 a2 (.tup [.ref a0, .ref a1]) a2 = some (.tup [.ref a0, .ref a1]) := upd_same
    have na2 := p2.ne ha2
    revert sa2 ea2
    generalize upd I1 a2 (.tup [.ref a0, .ref a1]) = I2
    intro sa2 ea2
    have p3 := p2.same sa2
    refine ⟨a2, _, rfl, SqT.of ea2, rfl, _, _, rfl, _, _, rfl, rfl, ?_⟩
    have s02 := (sa0.trans sa1).trans sa2
    refine ⟨_, rfl, sc, _, rfl, (SH.same s02).get3, ag, _, rfl, .inl (s02 _ _ SH.g), fun a3 ha3 => ?_⟩
    have sa3 := same_new (o := .dK (kgR gs)) ha3
    have ea3 : upd I2 a3 (.dK (kgR gs)) a3 = some (.dK (kgR gs)) := upd_same
    have na3 := p3.ne ha3
    revert sa3 ea3
    generalize upd I2 a3 (.dK (kgR gs)) = I3
    intro sa3 ea3
    have p4 := p3.same sa3
    have s03 := s02.trans sa3
    have f0 : hide p I3 a0 = some (.lst (ks.map V.str)) := by rw [hide_ne na0]; exact ((sa1.trans sa2).trans sa3) _ _ ea0
    have f1 : hide p I3 a1 = some (.dK kf) := by rw [hide_ne na1]; exact (sa2.trans sa3) _ _ ea1
    have f3 : hide p I3 a3 = some (.dK (kgR gs)) := by rw [hide_ne na3]; exact ea3
    have kH : Kp p H I3 := .of_s s03
    have sz : ∀ {z : Str}, Nm 5 z → Good 10 0 (.str z) := fun h => h.good.mono (by decide) (Nat.le_refl _)
    have KS0 : KS P w K (hide p I3) 10 3 (.ref a0) := .inl ⟨a0, _, rfl, f0, by rw [List.length_map]; have := dr.k3; omega, fun x hx => by
      obtain ⟨z, hz, rfl⟩ := List.mem_map.mp hx
      exact (g_str (m := 0) (sz (dr.kn z hz)) (by decide)).mono (Nat.le_refl _) (by decide)⟩
    have FS0 : FS P w K (hide p I3) 10 6 (.ref a1) := by
      have D1 : DpC P w K (hide p I3) (.ref a1) (.dict (dfR rows)) := copy_dict (S.T3.2.1) S.f kH f1
      cases D1 with
      | @dct _ es _ hc hl hk he ha =>
      have hlen : es.length = rows.length := by
        have := congrArg List.length he
        simpa [dfR] using this.symm
      refine .inl ⟨a1, es, rfl, hc, (fun o u e => by rw [f1] at e; cases e), by rw [hlen]; exact dr.r6, fun e hee => ?_⟩
      obtain ⟨i, hi, eqe⟩ := List.getElem_of_mem hee
      have hi' : i < rows.length := by omega
      have hrm : rows[i] ∈ rows := List.getElem_mem hi'
      have ek : e.1.d = .str rows[i].name := by
        have q := congrArg (fun l => (l[i]?)) he
        simp only [List.getElem?_map, dfR] at q
        rw [List.getElem?_eq_getElem hi, List.getElem?_eq_getElem hi', eqe] at q
        exact (Option.some.inj q).symm
      obtain ⟨d, hd, Dd⟩ := ha.at (i := i) (v := e.2) (by rw [List.getElem?_map, List.getElem?_eq_getElem hi, eqe]; rfl)
      have ed : d = rowD rows[i] := by
        simp only [List.getElem?_map, dfR] at hd
        rw [List.getElem?_eq_getElem hi'] at hd
        exact (Option.some.inj hd).symm
      have hnN : rows[i].name ∈ N := (List.take_subset rows.length _) (by rw [← dr.rn]; exact List.mem_map.mpr ⟨_, hrm, rfl⟩)
      have els : ∀ x ∈ [PyData.str rows[i].kind, .str rows[i].target, optD rows[i].back, .bool rows[i].single], Good 10 3 x := fun x hx => by
        simp only [List.mem_cons, List.not_mem_nil, or_false] at hx
        rcases hx with rfl | rfl | rfl | rfl
        · exact (sz (dr.kn _ (dr.rk _ hrm).1)).mono (Nat.le_refl _) (by decide)
        · exact (sz (dr.kn _ (dr.rk _ hrm).2)).mono (Nat.le_refl _) (by decide)
        · cases hb : rows[i].back with
          | none => exact ⟨rfl, rfl, Nat.zero_le _, Nat.zero_le _⟩
          | some b =>
            have hbN : b ∈ N := (List.drop_subset 6 N) ((List.take_subset _ _) ((filterMap_sub dr.rb).subset (List.mem_filterMap.mpr ⟨_, hrm, hb⟩)))
            exact (sz (dr.nn b hbN)).mono (Nat.le_refl _) (by decide)
        · exact ⟨rfl, rfl, Nat.zero_le _, Nat.zero_le _⟩
      refine ⟨hk e hee, by rw [ek]; exact (sz (dr.nn _ hnN)).mono (Nat.le_refl _) (by decide), d, Dd, by rw [ed]; exact nf_tup, by rw [ed]; exact (good_tuple (l := 4) els (by show 4 ≤ 4; decide)).mono (by decide) (by decide), fun es' ees => ?_⟩
      rw [ed] at ees
      cases ees
      exact els
    have MS0 : MS P w K (hide p I3) 10 3 (.ref a3) := by
      refine .inl ⟨a3, gs.map fun q => (K4.s q.1, .str q.2), rfl, .inl ⟨kgR gs, .inl f3, by simp [kgR, flX, flK, Function.comp_def, kV, K4.v]⟩, (fun o u e => by rw [f3] at e; cases e), by rw [List.length_map]; exact dr.g3, fun q hq => ?_⟩
      obtain ⟨g, hg, rfl⟩ := List.mem_map.mp hq
      have hgN : g.1 ∈ N := (List.drop_subset 12 N) ((List.take_subset gs.length _) (by rw [← dr.gn]; exact List.mem_map.mpr ⟨_, hg, rfl⟩))
      exact ⟨rfl, (sz (dr.nn _ hgN)).mono (Nat.le_refl _) (by decide), (g_str (m := 0) (sz (dr.kn _ (dr.gk g hg))) (by decide)).mono (Nat.le_refl _) (by decide)⟩
    -- the turns
    refine ⟨fun σ Hc => Kp p H Hc ∧ PotAt Hc p ∧ ∃ (vk vf vg : V) (s5 s6 : Option V), KS P w K (hide p Hc) 13 6 vk ∧ FS P w K (hide p Hc) 13 9 vf ∧ MS P w K (hide p Hc) 13 6 vg ∧ σ = [some (.ref p), some (.ref sc), some vk, some vf, some vg, s5, s6, none, none, none], ?_, ?_⟩
    · refine ⟨_, rfl, p, 4, rfl, p4, by decide, by decide, fun H4 n k4 p5 hn0 hn4 => ⟨n, rfl, by omega, by omega, ?_⟩⟩
      refine for_range (lo := 0) (n := n.toNat) (fun i σ Hc => Kp p H Hc ∧ PotAt Hc p ∧ ∃ (vk vf vg : V) (s5 s6 : Option V), KS P w K (hide p Hc) (10 + i) (3 + i) vk ∧ FS P w K (hide p Hc) (10 + i) (6 + i) vf ∧ MS P w K (hide p Hc) (10 + i) (3 + i) vg ∧ σ = [some (.ref p), some (.ref sc), some vk, some vf, some vg, s5, s6, none, none, none]) ?_ ?_ ?_
      · exact ⟨kH.trans k4, p5, _, _, _, none, none, KS0.same k4, FS0.same k4, MS0.same k4, rfl⟩
      · rintro i σ Hc hi ⟨kc, pc, vk, vf, vg, s5, s6, ksk, fsf, msg, rfl⟩
        have hi2 : i ≤ 2 := by omega
        have skip : ∀ {Hx : Hp} {s6' : Option V}, Same Hc Hx → Kp p H Hx ∧ PotAt Hx p ∧ ∃ (vk' vf' vg' : V) (s5 s6 : Option V), KS P w K (hide p Hx) (10 + (i + 1)) (3 + (i + 1)) vk' ∧ FS P w K (hide p Hx) (10 + (i + 1)) (6 + (i + 1)) vf' ∧ MS P w K (hide p Hx) (10 + (i + 1)) (3 + (i + 1)) vg' ∧ [some (V.ref p), some (.ref sc), some vk, some vf, some vg, some (.int (0 + (i : Int))), s6', none, none, none] = [some (V.ref p), some (.ref sc), some vk', some vf', some vg', s5, s6, none, none, none] := fun {Hx s6'} k => by
          have kk : Kp p Hc Hx := .of_s k
          exact ⟨kc.trans kk, pc.same k, vk, vf, vg, _, _, (ksk.same kk).mono (by omega) (by omega), (fsf.same kk).mono (by omega) (by omega), (msg.same kk).mono (by omega) (by omega), rfl⟩
        -- isinstance(breeds, list)
        rcases id ksk with ⟨ak', xs, rfl, hak, hkl, hkg⟩ | ⟨dk, Dk, nfk, gk, tk⟩
        rotate_left
        · refine ⟨_, rfl, _, _, _, dk, _, rfl, .ty _, (Dk.same hide_le).x, kit_d (by simp) dk, _, rfl, ?_⟩
          rw [tk]
          exact iteF (iteF (skip (Same.refl _)))
        obtain ⟨kd, KD, gkd⟩ := g_data hkg
        have hakc := hide_le _ _ hak
        have Dk : DpC P w K (hide p Hc) (.ref ak') (.list kd) := .lst (SqL.of hak) (Nat.le_trans hkl (Nat.le_trans (show 3 + i ≤ 100 by omega) (by decide))) KD
        refine ⟨_, rfl, _, _, _, _, _, rfl, .ty _, (Dk.same hide_le).x, kit_d (by simp) _, _, rfl, iteT ?_⟩
        -- breeds != []
        refine ⟨_, rfl, (by show 0 ≤ sizeLine; decide), fun b0 hb0 => ?_⟩
        have sb0 := same_new (o := .lst []) hb0
        have eb0 : upd Hc b0 (.lst []) b0 = some (.lst []) := upd_same
        have nb0 := pc.ne hb0
        revert sb0 eb0
        generalize upd Hc b0 (.lst []) = J0
        intro sb0 eb0
        have pj0 := pc.same sb0
        refine ⟨ak', b0, xs, rfl, rfl, SqL.of (sb0 _ _ hakc), SqL.of eb0, _, rfl, ?_⟩
        cases hxs : xs with
        | nil => exact iteF (iteF (skip sb0))
        | cons x0 xr =>
        rw [← hxs]
        rw [show (!xs.isEmpty) = true by rw [hxs]; rfl]
        refine iteT ?_
        -- isinstance(heads, dict)
        rcases id fsf with ⟨af', es, rfl, hc, hnf, hfl, hfe⟩ | ⟨df, Df, nff, gf, tf⟩
        rotate_left
        · refine ⟨_, rfl, _, _, _, df, _, rfl, .ty _, ((Df.same hide_le).same sb0).x, kit_d (by simp) df, _, rfl, ?_⟩
          rw [tf]
          exact iteF (iteF (skip sb0))
        obtain ⟨ds, hde, DV, hdp⟩ := g_dictE (K := K) (n := 10 + i) (n' := 200) (m := 5) (F := fun d => ∀ es, d = .tuple es → ∀ e ∈ es, Good (10 + i) 3 e) es (fun e he => (hfe e he).2.1.mono (Nat.le_refl _) (by decide)) (fun e he => by
          obtain ⟨d, D, _, g, f⟩ := (hfe e he).2.2
          exact ⟨d, D, g, f⟩)
        have hel : es.length ≤ big := Nat.le_trans hfl (Nat.le_trans (show 6 + i ≤ 100 by omega) (by decide))
        have Df : DpC P w K (hide p Hc) (.ref af') (.dict ds) := .dct hc hel (fun e he => (hfe e he).1) hde DV
        refine ⟨_, rfl, _, _, _, _, _, rfl, .ty _, ((Df.same hide_le).same sb0).x, kit_d (by simp) _, _, rfl, iteT ?_⟩
        -- isinstance(marks, dict)
        rcases id msg with ⟨ag', kvs, rfl, hcg, hnfg, hgl, hge⟩ | ⟨dg, Dg, nfg, gg, tg⟩
        rotate_left
        · refine ⟨_, rfl, _, _, _, dg, _, rfl, .ty _, ((Dg.same hide_le).same sb0).x, kit_d (by simp) dg, _, rfl, ?_⟩
          rw [tg]
          exact iteF (skip sb0)
        obtain ⟨dsg, Dgd, _, _, _⟩ := g_dict (P := P) (w := w) (K := K) (H := hide p Hc) (n := 20) (n' := 20) (m := 3) (l := 12) (F := fun _ => True) hcg (fun e he => by
          obtain ⟨q, hq, rfl⟩ := List.mem_map.mp he
          exact ⟨k4_key (hge q hq).1 (hge q hq).2.1 (by omega), (hge q hq).2.1.mono (by omega) (Nat.le_refl _)⟩) (fun e he => by
          obtain ⟨q, hq, rfl⟩ := List.mem_map.mp he
          obtain ⟨d, D, _, g⟩ := (hge q hq).2.2
          exact ⟨d, D, g.mono (by omega) (Nat.le_refl _), trivial⟩) (by rw [List.length_map]; omega) (by decide)
        refine ⟨_, rfl, _, _, _, _, _, rfl, .ty _, ((Dgd.same hide_le).same sb0).x, kit_d (by simp) _, _, rfl, iteT ?_⟩
        -- what is wrong
        have kcj : Same (hide p Hc) J0 := Same.trans hide_le sb0
        have hcj : DictC P w J0 af' es := dictC_same kcj hc
        have hnfj := dict_nf hc hnf kcj
        obtain ⟨u, hu, hU, mu, nt, nz⟩ := dictC_at hcj hnfj
        obtain ⟨nl, _, _⟩ := dictU_no hU
        refine ⟨af', u, hu, mu, fun od => ?_⟩
        have hdl : ds.length = es.length := by have := congrArg List.length hde; simpa using this
        refine ⟨_, rfl, fun nd => ⟨af', od, u, es, rfl, upd_same, hU, fun D hD => ?_⟩⟩
        have ndn := nd af' es rfl (dictV_lock hU upd_same)
        have kdL : DpCAll P w K (upd J0 af' (.frz od u)) (es.map (·.2)) (ds.map (·.2)) := dpC_lockA hu nl nt nz (DV.same kcj)
        have kkL : ∀ e ∈ es, KeyOk K (upd J0 af' (.frz od u)) e.1 := fun e he => keyOk_lock (keyOk_same kcj (hfe e he).1) hu nt nz
        have xsL : SqL K (upd J0 af' (.frz od u)) ak' xs := sqL_lock (SqL.of (sb0 _ _ hakc)) hu nl nz
        have KDL : DpCAll P w K (upd J0 af' (.frz od u)) xs kd := dpC_lockA hu nl nt nz (KD.same kcj)
        refine lc_flt (walk_keysX hU) (fun Hx k => k af' _ upd_same) hD (Nat.le_trans hel big_line) (fun j => (es[j]?).bind fun e => (ds[j]?).bind fun q => if isNameD q.1 && isFieldD kd q.2 then none else some e.1.v) ?_ ?_
        · rintro j x Hx Hy hj kx ⟨rfl, m, v, hm, rfl⟩ Nx hN
          have hjd : j < ds.length := by omega
          obtain ⟨q, hq⟩ : ∃ q, ds[j]? = some q := ⟨ds[j], by simp [hjd]⟩
          have emd : q.1 = m.d := by
            have z := congrArg (fun l => (l[j]?)) hde
            simp only [List.getElem?_map] at z
            rw [hm, hq] at z
            exact Option.some.inj z
          have hme := List.mem_of_getElem? hm
          have ko : KeyOk K Hy m := keyOk_same kx (kkL _ hme)
          obtain ⟨dv, hdv, Dv⟩ := kdL.at (i := j) (v := v) (by rw [List.getElem?_map, hm]; rfl)
          have edv : dv = q.2 := by
            rw [List.getElem?_map, hq] at hdv
            exact (Option.some.inj hdv).symm
          subst edv
          have hN' : ∀ H'', Same Hy H'' → Nx (if isNameD m.d && isFieldD kd q.2 then none else some m.v) H'' := fun H'' k => by
            have z := hN H'' k
            rw [hm, hq] at z
            dsimp only [Option.bind] at z
            rw [emd] at z
            exact z
          refine ⟨rfl, ?_⟩
          refine ⟨_, rfl, m.v, m.d, rfl, key_dpX ko, (fun x hx => Nat.le_trans (ko.2.2 x (.inl hx)) big_line), fun H1' k1' => ⟨_, rfl, ?_⟩⟩
          cases hb : isNameD m.d with
          | false =>
            have z := hN' H1' k1'
            rw [hb] at z
            exact iteT (iteT ⟨_, rfl, z⟩)
          | true =>
            refine iteF ?_
            have kx' := kx.trans k1'
            refine ⟨_, rfl, _, rfl, _, rfl, af', es, m, v, rfl, rfl, dictV_lock hU (kx' _ _ upd_same), (fun e he => ⟨(keyOk_same kx' (kkL e he)).1, (kkL e he).2.1⟩), (keyOk_same k1' ko).1, ko.2.1, valM_at ndn hm, ?_⟩
            refine ⟨v, q.2, ak', xs, kd, rfl, Dv.same kx', .inl (kx'.seq xsL), KDL.same kx', fun H2' k2' => ⟨_, rfl, ?_⟩⟩
            have z := hN' H2' (k1'.trans k2')
            rw [hb, Bool.true_and] at z
            cases hf : isFieldD kd q.2 with
            | false =>
              rw [hf] at z
              exact iteT ⟨_, rfl, z⟩
            | true =>
              rw [hf] at z
              exact iteF z
        · intro Hx kx hDx
          have hDa : D ≠ af' := fun e => by rw [e, upd_same] at hD; cases hD
          refine ⟨kx _ _ upd_same, ?_⟩
          have s6' : Same J0 (upd Hx af' u) := same_unlock hu kx
          have eD : upd Hx af' u D = some (.lst ((List.range es.length).filterMap fun j => (es[j]?).bind fun e => (ds[j]?).bind fun q => if isNameD q.1 && isFieldD kd q.2 then none else some e.1.v)) := by rw [upd_ne hDa]; exact hDx
          revert s6' eD
          generalize upd Hx af' u = J1
          intro s6' eD
          have sj1 := sb0.trans s6'
          have pj1 := pc.same sj1
          refine ⟨_, rfl, (by show 0 ≤ sizeLine; decide), fun b1 hb1 => ?_⟩
          have sb1 := same_new (o := .lst []) hb1
          have eb1 : upd J1 b1 (.lst []) b1 = some (.lst []) := upd_same
          have nb1 := pj1.ne hb1
          revert sb1 eb1
          generalize upd J1 b1 (.lst []) = J2
          intro sb1 eb1
          have pj2 := pj1.same sb1
          refine ⟨D, b1, _, rfl, rfl, SqL.of (sb1 _ _ eD), SqL.of eb1, _, rfl, ?_⟩
          have sj2 := sj1.trans sb1
          cases hws : ((List.range es.length).filterMap fun j => (es[j]?).bind fun e => (ds[j]?).bind fun q => if isNameD q.1 && isFieldD kd q.2 then none else some e.1.v).isEmpty with
          | false => exact iteF (skip sj2)
          | true =>
          refine iteT ?_
          have allok : ∀ (j : Nat) (e : MK × V) (q : PyData × PyData), es[j]? = some e → ds[j]? = some q → isNameD q.1 = true ∧ isFieldD kd q.2 = true := fun j e q he hq => by
            rw [List.isEmpty_iff, List.filterMap_eq_nil_iff] at hws
            have hjl : j < es.length := (List.getElem?_eq_some_iff.mp he).1
            have z := hws j (List.mem_range.mpr hjl)
            rw [he, hq] at z
            dsimp only [Option.bind] at z
            by_cases hb : (isNameD q.1 && isFieldD kd q.2) = true
            · exact Bool.and_eq_true_iff.mp hb
            · rw [if_neg hb] at z
              cases z
          have hnm : ∀ q ∈ ds, isNameD q.1 = true := fun q hq => by
            obtain ⟨j, hj, e⟩ := List.getElem_of_mem hq
            have hje : j < es.length := by omega
            exact (allok j es[j] q (by simp [hje]) (by rw [← e]; simp [hj])).1
          obtain ⟨kvf, ekf⟩ := names_key hnm hde
          have ekf' := asK_map ekf
          have hafd : hide p Hc af' = some (.dK kvf) := by
            rcases hc.k ekf' with h | ⟨o, h⟩
            · exact h
            · exact absurd h (hnf _ _)
          obtain ⟨q1, q2, q3, q4⟩ := names_pairs (P := P) (w := w) (K := K) (H := hide p Hc) (kvs := kvf) hnm (by rw [hde, ekf']) (by rw [ekf', List.map_map] at DV; exact DV)
          obtain ⟨fl, efl, efk⟩ := flD_of q1
          subst efl
          have kk : Kp p Hc J2 := .of_s sj2
          have hfll : fl.length = es.length := by rw [ekf']; simp [flD]
          have fnd : (fl.map (·.1)).Nodup := by
            have z := nodup_of_fl (kvs := flD fl) (by rw [← ekf']; exact ndn)
            rw [flD_keys] at z
            exact nodup_inr z
          have SI : SpIn P w K Hc p i ak' af' ag' xs fl kvs := by
            refine ⟨pc, hi2, hak, (by rw [hxs]; simp), hkl, hkg, hafd, by omega, fnd, fun r hr => ?_, fun r hr => ?_, hcg, hnfg, hgl, hge⟩
            · exact key_name hnm (by rw [← efk]; exact List.mem_map.mpr ⟨r, hr, rfl⟩)
            · obtain ⟨j, hj, ej⟩ := List.getElem_of_mem hr
              have hje : j < es.length := by omega
              have hjd : j < ds.length := by omega
              have eej : es[j]? = some (.fl (.str r.1), r.2) := by
                rw [ekf']
                simp only [flD, List.map_map, List.getElem?_map]
                rw [List.getElem?_eq_getElem hj, ej]
                rfl
              have hem := List.mem_of_getElem? eej
              refine ⟨(hfe _ hem).2.2, ?_⟩
              obtain ⟨_, hfld⟩ := allok j _ ds[j] eej (by simp [hjd])
              obtain ⟨dv, hdv, Dv⟩ := DV.at (i := j) (v := r.2) (by rw [List.getElem?_map, eej]; rfl)
              have edv : dv = ds[j].2 := by
                rw [List.getElem?_map, List.getElem?_eq_getElem hjd] at hdv
                exact (Option.some.inj hdv).symm
              have hF := (hdp ds[j] (List.getElem_mem hjd)).2.2
              rw [edv] at Dv
              obtain ⟨d0, d1, d2, d3, ed, hk0, hk1, hb2, b3, hb3⟩ := field_four hfld
              rw [ed] at Dv hF
              have gd := hF _ rfl
              obtain ⟨tt, y0, y1, y2, y3, er, hsq, D0, D1, D2, D3⟩ : ∃ t y0 y1 y2 y3, r.2 = .ref t ∧ SqT K (hide p Hc) t [y0, y1, y2, y3] ∧ DpC P w K (hide p Hc) y0 d0 ∧ DpC P w K (hide p Hc) y1 d1 ∧ DpC P w K (hide p Hc) y2 d2 ∧ DpC P w K (hide p Hc) y3 d3 := by
                generalize r.2 = rv at Dv
                cases Dv with
                | tup h1 h2 h3 =>
                  obtain ⟨y0, y1, y2, y3, rfl⟩ := four h3.length
                  exact ⟨_, _, _, _, _, rfl, h1, (all4 h3).1, (all4 h3).2.1, (all4 h3).2.2.1, (all4 h3).2.2.2⟩
              obtain ⟨z0, ez0, _⟩ := kind_str hk0
              obtain ⟨z1, ez1, _⟩ := kind_str hk1
              have ey0 : y0 = .str z0 := by rw [ez0] at D0; cases D0; rfl
              subst ey0
              refine ⟨tt, z0, y1, y2, y3, er, hsq, fun x hx => ?_, ?_⟩
              · simp only [List.mem_cons, List.not_mem_nil, or_false] at hx
                rcases hx with rfl | rfl | rfl | rfl
                · exact ⟨d0, D0, (fun _ _ e => nomatch e), gd d0 (by simp)⟩
                · exact ⟨d1, D1, (fun _ _ _ e => by rw [ez1] at e; cases e), gd d1 (by simp)⟩
                · exact ⟨d2, D2, (fun _ _ _ e => by rcases hb2 with rfl | h2; cases e; rw [e] at h2; cases h2), gd d2 (by simp)⟩
                · exact ⟨d3, D3, (fun _ _ _ e => by rw [hb3] at e; cases e), gd d3 (by simp)⟩
              · rcases hb2 with rfl | h2
                · cases D2
                  exact .inl rfl
                · obtain ⟨b, rfl, _⟩ := isName_str h2
                  cases D2
                  exact .inr ⟨b, rfl⟩
          refine ⟨_, rfl, _, rfl, _, rfl, _, rfl, p, i, ak', af', ag', xs, fl, kvs, rfl, SI.kp kk pj2, fun H' tup vk' vf' vg' k' p' htup hks hfs hms => ?_⟩
          refine ⟨tup, _, rfl, SqT.of htup, rfl, _, _, rfl, _, _, rfl, _, _, rfl, rfl, ?_⟩
          have e1 : 11 + i = 10 + (i + 1) := by omega
          have e2 : 4 + i = 3 + (i + 1) := by omega
          have e3 : 7 + i = 6 + (i + 1) := by omega
          rw [e1, e2] at hks hms
          rw [e1, e3] at hfs
          exact ⟨(kc.trans kk).trans k', p', vk', vf', vg', _, _, hks, hfs, hms, rfl⟩
      · rintro σ Hc ⟨kc, pc, vk, vf, vg, s5, s6, ksk, fsf, msg, rfl⟩
        exact ⟨kc, pc, vk, vf, vg, s5, s6, ksk.mono (by omega) (by omega), fsf.mono (by omega) (by omega), msg.mono (by omega) (by omega), rfl⟩
    rintro _ H4 ⟨k4, p4', vk, vf, vg, s5, s6, ksk, fsf, msg, rfl⟩
    obtain ⟨dk, Dk, nfk, gk⟩ := ksk.g (by decide) (by decide)
    obtain ⟨df, Df, nff, gf⟩ := fsf.g (by decide) (by decide)
    obtain ⟨dg, Dg, nfg, gg⟩ := msg.g (by decide) (by decide)
    have T4 : Three P w K H4 vk vf vg dk df dg := (show Three P w K (hide p H4) vk vf vg dk df dg from ⟨Dk, Df, Dg, nfk, nff, nfg⟩).same hide_le
    have g3 : Good 15003 8 (.tuple [dk, df, dg]) := good_tuple (n := 5000) (m := 7) (l := 3) (fun e he => by
      simp only [List.mem_cons, List.not_mem_nil, or_false] at he
      rcases he with rfl | rfl | rfl
      · exact gk.mono (by decide) (by decide)
      · exact gf
      · exact gg) (by show 3 ≤ 3; decide)
    obtain ⟨q1, q2, q3⟩ := good_shown g3 (by decide) (by decide)
    refine ⟨_, rfl, _, rfl, _, rfl, (by show 3 ≤ sizeLine; decide), fun t1 ht1 => ?_⟩
    have st := same_new (o := .tup [vk, vf, vg]) ht1
    have T5 := T4.same st
    refine ⟨t1, .tuple [dk, df, dg], rfl, .tup (SqT.of upd_same) (.cons T5.1.x (.cons T5.2.1.x (.cons T5.2.2.1.x .nil))), q1, q2, q3, ?_⟩
    refine ⟨_, rfl, _, rfl, _, rfl, vk, vf, vg, dk, df, dg, rfl, T5, fun H6 ld k6 hld e6 => ?_⟩
    refine ⟨2, rfl, by decide, by decide, ?_⟩
    refine for_range (lo := 0) (n := 2) (fun i σ Hc => Same H6 Hc ∧ ∃ s5, σ = [some (.ref p), some (.ref sc), some vk, some vf, some vg, s5, s6, some (.str (PyData.tuple [dk, df, dg]).shown), some (.ref ld), none]) ⟨Same.refl _, _, rfl⟩ ?_ ?_
    · rintro i σ Hc hi ⟨kc, s5, rfl⟩
      have Tc := (T5.same k6).same kc
      refine ⟨_, rfl, _, rfl, _, rfl, _, rfl, rfl, vk, vf, vg, dk, df, dg, _, rfl, Tc, fun H8 lt k8 hlt e8 => ?_⟩
      refine ⟨_, rfl, .list (verD (dueD dk df dg)), .list (verD (dueD dk df dg)), .lst (SqL.of e8) (ver_dp _), .lst (SqL.of (k8 _ _ (kc _ _ e6))) (ver_dp _), ver_shaped (due_ok _ _ _), ver_shaped (due_ok _ _ _), _, rfl, ?_⟩
      rw [ver_eqv (due_ok _ _ _)]
      exact iteF ⟨kc.trans k8, _, rfl⟩
    · rintro σ Hc ⟨kc, s5, rfl⟩
      have Tc := (T5.same k6).same kc
      refine ⟨_, rfl, _, rfl, _, rfl, (by show 3 ≤ sizeLine; decide), fun t2 ht2 => ?_⟩
      have st2 := same_new (o := .tup [vk, vf, vg]) ht2
      have T9 := Tc.same st2
      refine ⟨t2, .tuple [dk, df, dg], rfl, .tup (SqT.of upd_same) (.cons T9.1.x (.cons T9.2.1.x (.cons T9.2.2.1.x .nil))), q1, q2, q3, _, rfl, rfl, ?_⟩
      have kall := ((st.trans k6).trans kc).trans st2
      have z := hQ _ (k4.trans (.of_s kall)) (p4'.same kall)
      show Q (.bl (decide (V.str _ = V.str _))) _
      rw [decide_eq_true rfl]
      exact z
end

end K17
end
section
set_option Elab.async false
set_option linter.all false
set_option maxRecDepth 100000
set_option maxHeartbeats 4000000
/-! EK17: a law's def whose repr asks for no guard -/
namespace L2
open PySem PySem.Spec PyProof.Rows PySem.EK
theorem FunD.okG {P : Program} {w : World} {K : PySem.W.Frag} {mg : Str → Option Value} {base : Heap} {x qual : Str} {params : Arguments} {body : List Stmt} {scope : Scope} {dvs : List V} {kws : List (Str × V)} {f : Addr} {fd : FuncData} {CX : CXT} {N ps : List Str} {k : Nat} {sp : Sp}
    (F : FunD K x qual params body scope dvs kws f fd) (S : FnScope N ps scope) (len : ∀ vs H Q E, sp vs H Q E → vs.length = ps.length)
    (hbody : ∀ (cdv : Value) (A : Around) (outer : List Env) (s : Shared) (H : Hp) (vs : List V) (Q : VK) (E : XK), A.guards = some [] → Room k (A.deeper (envOfC qual scope s.heap.objs.size f cdv)) → sp vs H Q E →
      ∃ t, PSs (cxOf CX P w K mg base N qual scope f cdv A outer s H E) body t ∧ t { nx := fun _ H' => Q .non H', rt := Q } (start N vs) H) : FnG P w K mg base CX (k + 1) f fd ps sp := by
  obtain ⟨oc, od, dV, kV, doc, pm, an, cdv, ct, osl, rfl, lk, hcd, _, _⟩ := F.ex
  exact fnG_of lk hcd S len fun A outer s H vs Q E hg hr hsp => hbody cdv A outer s H vs Q E hg hr hsp
end L2
end
section
set_option Elab.async false
set_option linter.all false
set_option maxRecDepth 100000
set_option maxHeartbeats 4000000
namespace K17
open PySem PySem.Spec PyProof.Rows L2 PySem.EK

abbrev s_law : Stmt := top 40
def spLaw (K : PySem.W.Frag) : Sp := fun vs H Q _ => ∃ (a : Addr) (ns : List Int), vs = [.ref a] ∧ SqL K H a (ns.map V.int) ∧ ns.length ≤ 63 ∧ ∀ H', Q (.bl true) H'
theorem Kp.same_of {p : Addr} {H H1 H2 : Hp} (k : Same H H1) (kp : Kp p H1 H2) (hp : H p = none) : Same H H2 := fun b o e => by
  have hb : b ≠ p := ne_of_none e hp
  exact kp.at hb (k b o e)
section
variable {P : Program} {w : World} {K : PySem.W.Frag} {mg : Str → Option Value} {base : Heap}
theorem sc_law : FnScope ["_law_script", "_law_k", "_law_pot_here", "_law_scheme_here", "_law_turn"] ["_law_script"] (defScope s_law) := ⟨rfl, rfl, rfl, by decide +kernel, rfl, by decide +kernel, by decide +kernel⟩
theorem ok_law {f : Addr} {fd : FuncData} (F : FnP K "law" s_law f fd) (B : Bl mg) (C__law_pot : Cal P w K mg base CX0 1 "_law_pot" ["_law_script", "_law_k"] (spPotP K)) (C__law_scheme : Cal P w K mg base CX0 3 "_law_scheme" ["_law_pot_here", "_law_wide"] (spScheme P w K))
    (C__law_turn_right : CalG P w K mg base CX0 7 "_law_turn_right" ["_law_pot_here", "_law_scheme_here"] (spTurn P w K)) (C__law_changed_right : Cal P w K mg base CX0 7 "_law_changed_right" ["_law_scheme_here"] (spChanged P w K)) :
    FnG P w K mg base CX0 8 f fd ["_law_script"] (spLaw K) := by
  refine F.okG sc_law (fun vs H Q E h => ?_) (fun cdv A outer s H vs Q E hgd hr h => ?_)
  · obtain ⟨a, ns, rfl, _⟩ := h
    rfl
  · obtain ⟨a, ns, rfl, hS, hlen, hQ⟩ := h
    refine ⟨_, PSs.nox (pss_cons (ps_for PassesOwn.never rfl (pi_range1 (by rfl) B.range (pa_cons (pe_callB (call_max2 rfl) (by rfl) B.max (by decide +kernel) (pa_cons pe_int (pa_cons (pe_callB (call_min2 rfl) (by rfl) B.min (by decide +kernel) (pa_cons pe_int (pa_cons (pe_callB call_len_seq (by rfl) B.len (by decide +kernel) (pa_cons (pv 0) pa_nil)) pa_nil))) pa_nil))) pa_nil)) (pg_name (i := 1) sc_law.nd rfl (Or.inl rfl)) (pss_cons (ps_set (i := 2) sc_law.nd rfl (Or.inr rfl) (pe_c C__law_pot hr pass0 (pa_cons (pv 0) (pa_cons (pv 1) pa_nil))))
      (pss_cons (ps_set (i := 3) sc_law.nd rfl (Or.inr rfl) (pe_c C__law_scheme hr pass0 (pa_cons (pv 2) (pa_cons pe_int pa_nil))))
      (pss_one (ps_if (PW.pt (pw_or (pt_not (pt_val (pe_callB (cr_all rfl) (by rfl) B.all (by decide +kernel) (pa_cons (pe_lc (own := [("_law_turn", 4)]) (by rfl) sc_law.nd (pi_range1 (by rfl) B.range (pa_cons pe_int pa_nil)) (blkOk_by (own := [("_law_turn", 4)]) (N := ["_law_script", "_law_k", "_law_pot_here", "_law_scheme_here", "_law_turn"]) (sc := defScope s_law) (by decide +kernel)) (fun _ _ _ _ _ => (pg_name (i := 4) sc_law.nd rfl (Or.inl rfl))) (fun _ _ _ _ _ => pts_nil) (fun _ _ _ _ _ => (pe_cG C__law_turn_right hgd hr pass0 (pa_cons (pv 2) (pa_cons (pv 3) pa_nil))))) pa_nil)))) (pw_or1 (pt_not (pt_val (pe_c C__law_changed_right hr pass0 (pa_cons (pv 3) pa_nil))))))) (pss_one (ps_ret pe_bl)) pss_nil)))))
      (pss_one (ps_ret pe_bl))), ?_⟩
    refine ⟨_, rfl, a, _, rfl, .inl hS, _, _, rfl, _, _, rfl, ?_⟩
    have hb : ∀ n : Nat, (if (if (n : Int) < 6 then (n : Int) else 6) > 1 then (if (n : Int) < 6 then (n : Int) else 6) else 1) ≤ 6 ∧ 1 ≤ (if (if (n : Int) < 6 then (n : Int) else 6) > 1 then (if (n : Int) < 6 then (n : Int) else 6) else 1) := fun n => by
      split <;> split <;> omega
    obtain ⟨b1, b2⟩ := hb (ns.map V.int).length
    generalize (if (if (((ns.map V.int).length : Nat) : Int) < 6 then (((ns.map V.int).length : Nat) : Int) else 6) > 1 then (if (((ns.map V.int).length : Nat) : Int) < 6 then (((ns.map V.int).length : Nat) : Int) else 6) else 1) = m at b1 b2 ⊢
    refine ⟨m, rfl, by omega, by omega, ?_⟩
    refine for_range (lo := 0) (n := m.toNat) (fun i σ Hc => Same H Hc ∧ ∃ s1 s2 s3, σ = [some (.ref a), s1, s2, s3, none]) ⟨Same.refl _, _, _, _, rfl⟩ ?_ ?_
    · rintro i σ Hc hi ⟨kc, s1, s2, s3, rfl⟩
      refine ⟨_, rfl, _, rfl, a, ns, _, rfl, kc.seq hS, by omega, by omega, fun p H1 k1 hp p1 => ?_⟩
      have hpH : H p = none := kc.free hp
      have k01 := kc.trans k1
      refine ⟨_, rfl, p, rfl, p1, fun H2 sc ak af ag ks N rows gs kf k2 p2 dr S => ?_⟩
      have k02 : Same H H2 := k2.same_of k01 hpH
      refine ⟨20, rfl, by decide, by decide, fun D hD => lc_range (lo := 0) (n := 20) (fun n Hx => Kp p H2 Hx ∧ PotAt Hx p ∧ Hx D = some (.lst ((List.replicate n true).map V.bl))) ⟨.of_s (same_new hD), p2.same (same_new hD), upd_same⟩ ?_ ?_⟩
      · rintro n Hx hn ⟨kx, px, hDx⟩
        have hDp : D ≠ p := p2.ne hD
        refine ⟨rfl, tYes_in ⟨_, rfl, _, rfl, p, sc, ak, af, ag, ks, N, rows, gs, kf, rfl, px, dr, S.same kx, fun H' k' p' => ?_⟩⟩
        refine ⟨_, k'.at hDp hDx, by rw [List.length_map, List.length_replicate, sizeLine_eq]; omega, (kx.trans k').mut (hide_upd hD) hDp, p'.upd hDp, ?_⟩
        rw [upd_same, List.replicate_succ', List.map_append]
        rfl
      · rintro Hx ⟨kx, px, hDx⟩
        refine ⟨D, List.replicate 20 true, rfl, SqL.of hDx, _, rfl, ?_⟩
        have e : (List.replicate 20 true).all id = true := by simp
        rw [e]
        refine iteF ⟨_, rfl, sc, ak, af, ag, ks, kf, _, _, _, rfl, (S.same kx).same hide_le, fun H' k' => ⟨_, rfl, iteF ?_⟩⟩
        exact ⟨(kx.same_of k02 hpH).trans k', _, _, _, rfl⟩
    · rintro σ Hc ⟨kc, s1, s2, s3, rfl⟩
      exact hQ _
end

end K17
end
section
set_option Elab.async false
set_option linter.all false
set_option maxRecDepth 100000
set_option maxHeartbeats 4000000
/-! LawG: the end of a law row for a law's def of the sort FnG -/
namespace L2
open PySem PySem.Spec PyProof.Rows
theorem law_callG {P : Program} {w : World} {K : PySem.W.Frag} {mg mb : Str → Option Value} {CX : CXT} {k : Nat} {fa a : Addr} {fd : FuncData} {x : Str} {sp : Sp} {s1 : Shared} {vs : List Value} {ns : List Int}
    (KX : K.In s1.heap) (hns : s1.heap.Ns mainGlobals mg) (hb : s1.heap.Ns builtinsNs mb) (hbb : ∀ x : Str, x ≠ "__name__" → mb x = bootBuiltins x) (hlim : s1.heap.NoLimit) (hg : s1.gens = #[])
    (ha : s1.heap.get? a = some { cls := .type "list", data := .seq vs.toArray }) (hi : IntsAre vs ns) (hl : ns.length ≤ sizeLine) (hr : Room k callerA)
    (F : ∀ base : Heap, K.In base → base.Ns mainGlobals mg → FnG P w K mg base CX k fa fd [x] sp) (hbind : ∀ (s : Shared) (u : Value), BindsTo s fd ⟨[u], []⟩ [(x, u)])
    (hsp : ∀ H : Hp, Only H → SqL K H a (ns.map V.int) → sp [.ref a] H (fun v _ => v = .bl true) fun _ _ _ => False)
    (hCX : ∀ H e s', CX [] H s1 (fun _ _ _ => False) e s' → False) :
    codeAny (model P w) callerA (.call (.ref fa) ⟨[.ref a], []⟩) (fun r s' => r = .ok (.ret (.bool true)) ∧ OldK s1.heap s'.heap ∧ s'.os = s1.os ∧ AllBare s'.gens) s1 := by
  have rv := vals_ints hi
  have lenV := hi.length
  have core : ∀ H : Hp, Only H → SqL K H a (ns.map V.int) → HOk P w H s1.heap → (∀ b, H b ≠ none → b = a) → (H a ≠ none → K.lookup a = none) →
      codeAny (model P w) callerA (.call (.ref fa) ⟨[.ref a], []⟩) (fun r s' => r = .ok (.ret (.bool true)) ∧ OldK s1.heap s'.heap ∧ s'.os = s1.os ∧ AllBare s'.gens) s1 := by
    intro H hO hS hok hA hK
    have noA : ∀ {b : Addr} {o : Obj} {es : Array DictEntry} {ep : Nat}, s1.heap.get? b = some o → o.data = .dict es ep → H b = none := fun {b o es ep} e d => by
      cases q : H b with
      | none => rfl
      | some u =>
        have e' : b = a := hA b (by rw [q]; simp)
        subst e'
        rw [ha] at e
        cases e
        have d' : Data.seq vs.toArray _ = Data.dict es ep := d
        cases d'
    have nsK : ∀ {b : Addr} {m : Str → Option Value}, s1.heap.Ns b m → (hidT s1.heap H).Ns b m := fun {b m} ⟨o, es, ep, e, d, r⟩ => ⟨o, es, ep, hidT_get e (noA e d), d, r⟩
    have hKb : K.In (hidT s1.heap H) := fun b o e => hidT_get (KX b o e) (by
      cases q : H b with
      | none => rfl
      | some u =>
        have e' : b = a := hA b (by rw [q]; simp)
        subst e'
        rw [hK (by rw [q]; simp)] at e
        cases e)
    have hM : Mod K mg (hidT s1.heap H) := ⟨hKb, nsK hns, ⟨mb, nsK hb, hbb⟩, let ⟨mc, h1, h2⟩ := hlim; ⟨mc, nsK h1, h2⟩⟩
    have e0 : Env0 P w K mg (hidT s1.heap H) callerA [] s1 H := ⟨rfl, hM, fun b o e => of_hidT e, Nat.le_of_eq (hidT_size _ _), trivial, fun b hb => absurd (show b ∈ ([] : List Addr) from hb) (by simp), hok, .of_eq hg⟩
    refine codeAny_mono ((F _ hKb (nsK hns)).run callerA [] s1 H ⟨[.ref a], []⟩ [.ref a] [.ref a] _ _ rfl hr e0 (hbind s1 (.ref a)) (.cons rfl .nil) (hsp H hO hS)) fun r s' h => ?_
    cases r with
    | error e => exact (hCX H e s' h).elim
    | ok fl =>
      cases fl with
      | next => exact False.elim h
      | brk => exact False.elim h
      | cont => exact False.elim h
      | ret u =>
        obtain ⟨v, H', os, bare, un, hok', r', q⟩ := h
        have q' : v = .bl true := q
        subst q'
        obtain rfl : u = Value.bool true := r'
        refine ⟨rfl, OldK.of_keep fun b o e => ?_, os, bare⟩
        cases q : H b with
        | none => exact un.keep b o e q (by intro z; exact absurd (show b ∈ ([] : List Addr) from z) (by simp)) (by simp)
        | some u =>
          rcases hO b with z | ⟨ob, xs, z⟩
          · rw [q] at z
            cases z
          · have z2 := un.frzs b ob _ z
            obtain ⟨e1, _⟩ := hok b _ z
            obtain ⟨e2, _⟩ := hok' b _ z2
            rw [e] at e1
            cases e1
            exact e2
  cases hk : K.lookup a with
  | some o =>
    have e := KX a o hk
    rw [ha] at e
    cases e
    refine core (fun _ => none) (fun _ => .inl rfl) (.inr ⟨_, vs.toArray, _, hk, rfl, rfl, rfl, by rw [List.size_toArray, lenV]; exact hl, by simpa using rv⟩) (fun b u z => by have z' : (none : Option HO) = some u := z; cases z') (fun b z => absurd rfl z) fun z => absurd rfl z
  | none =>
    refine core (fun b => if b = a then some (.frz { cls := .type "list", data := .seq vs.toArray } (.lst (ns.map V.int))) else none) (fun b => ?_) (.inl (.inr ⟨{ cls := .type "list", data := .seq vs.toArray }, if_pos rfl⟩)) (fun b u z => ?_) (fun b z => ?_) fun _ => hk
    · by_cases hb : b = a
      · exact .inr ⟨_, _, if_pos hb⟩
      · exact .inl (if_neg hb)
    · by_cases hb : b = a
      · have z' := (if_pos hb).symm.trans z
        cases z'
        subst hb
        exact ⟨ha, by rw [List.length_map]; exact hl, vs, _, rv, ha⟩
      · have z' := (if_neg hb).symm.trans z
        cases z'
    · by_cases hb : b = a
      · exact hb
      · exact absurd (if_neg hb) z
theorem walk_ofG {l : PySem.W.OpenLaw} {n k : Nat} {q : Program} {loose : List Str} {XP : (Str → Option Value) → Heap → Prop} {YP : World → Heap → Prop} {d : DefRec} {CX : CXT} {x : Str}
    (hn : l.most = some n) (hn2 : n ≤ sizeLine) (hdf : d.params.defaults = []) (hr : Room k callerA)
    (F : ∀ (w : World) (mg : Str → Option Value) (fa : Addr) (h : Heap), YP w h → h.Ns mainGlobals mg → mg d.name = some (.ref fa) →
      ∃ (K : PySem.W.Frag) (fd : FuncData) (sp : Sp), K.In h ∧ (∀ (s : Shared) (u : Value), BindsTo s fd ⟨[u], []⟩ [(x, u)]) ∧
        (∀ (H : Hp) (a : Addr) (ns : List Int), ns.length ≤ n → Only H → SqL K H a (ns.map V.int) → sp [.ref a] H (fun v _ => v = .bl true) fun _ _ _ => False) ∧
        ∀ base : Heap, K.In base → base.Ns mainGlobals mg → FnG l.prog w K mg base CX k fa fd [x] sp)
    (hCX : ∀ (H : Hp) (s : Shared) (e : Value) (s' : Shared), CX [] H s (fun _ _ _ => False) e s' → False) :
    PySem.W.WalkO q loose XP YP l.row.toRowW d [] (fun f vs => PySem.call f vs) := by
  refine Att.attach_call hn hdf fun w s0 s1 mg mb fa o pm cd doc a vs ns G Y ho hd hcd hmg hobj hints hlen hg => ?_
  obtain ⟨K, fd, sp, KX, hb, hsp, hF⟩ := F w mg fa _ Y G.T.g hmg
  exact law_callG KX G.T.g G.T.b G.T.builtins G.T.nolimit hg hobj hints (Nat.le_trans hlen hn2) hr hF hb (fun H hO hS => hsp H a ns hlen hO hS) fun H e s' => hCX H s1 e s'
end L2
end
section
set_option Elab.async false
set_option linter.all false
set_option maxRecDepth 100000
set_option maxHeartbeats 4000000
/-! HeadErr: what the head's part K says of error classes, as a Bool -/
namespace HE
open PySem PySem.W PySem.Spec PyProof.Rows L2 He PySem.EK
/-- one error class of the text: its name, that of its own base, its fields, the statement of its __init__ -/
structure InD where
  name : Str
  qual : Str
  base : Str
  fs : List Str
  st : Stmt
  B : String
  newId : String
  initId : String
def InD.bm (d : InD) : List Value := [.type d.B, .type "Exception", .type "BaseException", .type "object"]
abbrev InW : Type := Option (Str × Str × Arguments × FuncBody × Scope × Addr × Value × Addr)
def inW (K : Frag) (x : Str) : InW := match K.lookup (ma K (ga K x) "__init__") with
  | some ⟨_, _, .func fd, _⟩ => some (fd.name, fd.qualname, fd.params, fd.body, fd.scope, fd.globals, fd.defaults, fd.builtins)
  | _ => none
def InD.val (d : InD) : InW := some ("__init__", d.qual, defArgs d.st, .stmts (defBody d.st), defScope d.st, mainGlobals, .none, builtinsNs)
def clsB (K : Frag) (C : Addr) (rs : List Addr) (bmB : List Value) (newId : String) : Bool := match K.lookup C with
  | some ⟨.type "type", _, .cls cd, sl⟩ => (match sl.toList with
    | [_, _, _, _, some (.builtin n), _] => decide (cd.mro = .ref C :: (rs.map Value.ref ++ bmB)) && (decide (n = newId) && (!cd.hasDel && cd.hasDict))
    | _ => false)
  | _ => false
theorem clsB_ok {K : Frag} {C : Addr} {rs : List Addr} {bmB : List Value} {newId : String} (h : clsB K C rs bmB newId = true) :
    ∃ nm q N bs sn sub ab col dd k0 k1 k2 k3 k5, K.lookup C = some (excClassObj nm q C N bs (rs.map Value.ref ++ bmB) true sn sub ab col dd k0 k1 k2 k3 k5 newId) := by
  unfold clsB at h
  split at h
  · rename_i dd cd sl ho
    split at h
    · rename_i k0 k1 k2 k3 n k5 hs
      simp only [Bool.and_eq_true, decide_eq_true_eq, Bool.not_eq_true'] at h
      obtain ⟨hm, rfl, hdel, hhd⟩ := h
      obtain ⟨nm, bs, mro, ns, qn, hd, sn, sub, ab, col, del⟩ := cd
      dsimp only at hm hdel hhd
      subst hm hdel hhd
      have hsl : sl = #[k0, k1, k2, k3, some (.builtin n), k5] := by
        obtain ⟨l⟩ := sl
        simp only at hs
        rw [hs]
      subst hsl
      exact ⟨nm, qn, ns, bs, sn, sub, ab, col, dd, k0, k1, k2, k3, k5, ho⟩
    · cases h
  · cases h
def fileB (P : Program) (K : Frag) (cd : Value) : Bool := match cd with
  | .ref c => (match K.lookup c with
    | some ⟨_, _, .fields vs, _⟩ => (match (vs[2]? : Option Value) with
      | some (Value.str file _) => (P.main.file : Str) == file
      | _ => false)
    | _ => false)
  | _ => false
def cellB (K : Frag) (cl : List (Str × Addr)) (C : Addr) : Bool := match cl with
  | [(n, cc)] => decide (n = "__class__") && (match K.lookup cc with
    | some ⟨_, _, .cell (some (.ref D)), _⟩ => D == C
    | _ => false)
  | _ => false
def initB (P : Program) (K : Frag) (C : Addr) (f : Addr) : Bool := match K.lookup f with
  | some ⟨_, _, .func fd, _⟩ => codeIn K fd.code fd.qualname && (fileB P K fd.code && cellB K fd.closure C)
  | _ => false
def eqB (a b : Option Bool) : Bool := decide (a = b)
def eqV' (a b : Option Value) : Bool := decide (a = b)
/-- all but the text -/
def InD.ok (P : Program) (K : Frag) (d : InD) : Bool :=
  let C := ga K d.name
  eqO (nsIn K mainGlobals d.name) (some (some (.ref C))) && (clsB K C [ga K d.base] d.bm d.newId && (eqO (findIn K (.ref C) "__setattr__") (some (some (.builtin "object.__setattr__"))) &&
  (eqO (findIn K (.ref C) "__getattribute__") (some (some (.builtin "BaseException.__getattribute__"))) && (eqO (findIn K (.ref C) "__getattr__") (some none) && (d.fs.all (fun f => eqO (findIn K (.ref C) f) (some none)) &&
  (eqO (findIn K (.ref C) "__init__") (some (some (.ref (ma K C "__init__")))) && (eqV' (typeIn K (.ref (ma K C "__init__"))) (some (.type "function")) && (keepIn K (.ref C) &&
  (eqB (subIn K (.ref C) (.type "BaseException")) (some true) && (eqV' (typeIn K (.ref C)) (some (.type "type")) && (hasDictIn K C &&
  (eqO (nsIn K cStatics "thirdparty.any") (some none) && (eqO (ks_superIn K C C "__init__") (some (some (.builtin d.initId))) && (eqB (subIn K (.ref C) (.type d.B)) (some true) && initB P K C (ma K C "__init__")))))))))))))))
/-- what the text says of the __init__ -/
structure InT (d : InD) : Prop where
  few : d.fs.length ≤ 100
  ndb : ∀ f ∈ d.fs, (f == ("__debug__" : Str)) = false
  init : IsInit d.fs (defBody d.st)
  self : ∃ ar, ((defArgs d.st).posonlyargs ++ (defArgs d.st).args).head? = some ar ∧ ar.arg = "self"
  sup : (defScope d.st).names.lookup ("super" : Str) = some .globalImplicit
  cl : (defScope d.st).names.lookup ("__class__" : Str) = some .free
  slf : (defScope d.st).names.lookup ("self" : Str) = some .local
  loc : ∀ f ∈ d.fs, (defScope d.st).names.lookup f = some .local
  cell : ∀ x ∈ (defScope d.st).names, x.2 ≠ .cell
  co : (defScope d.st).isCoroutine = false
  gen : (defScope d.st).isGenerator = false
  kind : (defScope d.st).kind = .function
theorem errT_of {P : Program} {K : Frag} {d : InD} (bt : BaseT d.B d.newId d.initId d.bm) (top : (P.main.scope.names.lookup ("super" : Str)).isSome = false) (t : InT d) (h : d.ok P K = true) (e : inW K d.name = d.val) :
    ∃ qual kV doc pm an cda ct cc, ErrT P K (ga K d.name) (ma K (ga K d.name) "__init__") d.B d.newId d.initId d.bm [ga K d.base] d.fs (ksFn "__init__" qual (defArgs d.st) (defBody d.st) (defScope d.st) .none kV doc pm an (.ref cda) ct cc) := by
  obtain ⟨h1, h⟩ := ba h
  obtain ⟨h2, h⟩ := ba h
  obtain ⟨h3, h⟩ := ba h
  obtain ⟨h4, h⟩ := ba h
  obtain ⟨h5, h⟩ := ba h
  obtain ⟨h6, h⟩ := ba h
  obtain ⟨h7, h⟩ := ba h
  obtain ⟨h8, h⟩ := ba h
  obtain ⟨h9, h⟩ := ba h
  obtain ⟨h10, h⟩ := ba h
  obtain ⟨h11, h⟩ := ba h
  obtain ⟨h12, h⟩ := ba h
  obtain ⟨h13, h⟩ := ba h
  obtain ⟨h14, h⟩ := ba h
  obtain ⟨h15, h16⟩ := ba h
  unfold inW at e
  unfold initB at h16
  cases q : K.lookup (ma K (ga K d.name) "__init__") with
  | none =>
    rw [q] at h16
    cases h16
  | some o =>
    obtain ⟨oc, od, dt, osl⟩ := o
    rw [q] at h16 e
    cases dt with
    | func fd =>
      obtain ⟨n1, n2, n3, n4, n5, n6, n7, n8, n9, n10, n11, n12, n13, n14, n15⟩ := fd
      have e2 : (some (n1, n2, n3, n4, n5, n6, n8, n15) : InW) = some (Str.ofString "__init__", d.qual, defArgs d.st, FuncBody.stmts (defBody d.st), defScope d.st, mainGlobals, Value.none, builtinsNs) := e
      simp only [Option.some.injEq, Prod.mk.injEq] at e2
      obtain ⟨g1, g2, g3, g4, g5, g6, g7, g8⟩ := e2
      subst g1 g2 g3 g4 g5 g6 g7 g8
      have c3 : (codeIn K n13 d.qual && (fileB P K n13 && cellB K n7 (ga K d.name))) = true := h16
      obtain ⟨c4, c5⟩ := ba c3
      obtain ⟨c6, c7⟩ := ba c5
      unfold fileB at c6
      cases n13 with
      | ref cda =>
        cases q2 : K.lookup cda with
        | none =>
          simp only [q2] at c6
          cases c6
        | some o2 =>
          obtain ⟨oc2, od2, dt2, osl2⟩ := o2
          simp only [q2] at c6
          cases dt2 with
          | fields vs =>
            cases q3 : vs[2]? with
            | none =>
              simp only [q3] at c6
              cases c6
            | some fv =>
              cases fv with
              | str file tf =>
                simp only [q3] at c6
                unfold cellB at c7
                match n7, c7 with
                | [(n, cc)], c7 =>
                  obtain ⟨c8, c9⟩ := ba c7
                  have en : n = "__class__" := of_decide_eq_true c8
                  subst en
                  cases q4 : K.lookup cc with
                  | none =>
                    simp only [q4] at c9
                    cases c9
                  | some o4 =>
                    obtain ⟨oc4, od4, dt4, osl4⟩ := o4
                    simp only [q4] at c9
                    cases dt4 with
                    | cell v =>
                      cases v with
                      | none => cases c9
                      | some v =>
                        cases v with
                        | ref D =>
                          have eD : D = ga K d.name := beq_iff_eq.mp c9
                          subst eD
                          refine ⟨d.qual, n9, n10, n11, n12, cda, n14, cc, ⟨bt, clsB_ok h2, eqO_ok h3, eqO_ok h4, eqO_ok h5, fun f hf => eqO_ok (List.all_eq_true.mp h6 f hf), t.few, t.ndb, eqO_ok h7, of_decide_eq_true h8, h9, of_decide_eq_true h10, of_decide_eq_true h11, h12, eqO_ok h13, eqO_ok h14, of_decide_eq_true h15, top, ?_⟩⟩
                          exact ⟨oc, od, osl, d.qual, _, _, _, .none, n9, n10, n11, n12, cda, n14, cc, rfl, q, c4, ⟨_, _, _, _, file, tf, q2, q3, c6⟩, ⟨_, _, _, q4⟩, t.init, t.self, t.sup, t.cl, t.slf, t.loc, t.cell, t.co, t.gen, t.kind⟩
                        | _ => cases c9
                    | _ => cases c9
                | [], c7 => cases c7
                | _ :: _ :: _, c7 => cases c7
              | _ =>
                simp only [q3] at c6
                cases c6
          | _ => cases c6
      | _ => cases c6
    | _ => cases h16
end HE
end
section
set_option Elab.async false
set_option linter.all false
set_option maxRecDepth 100000
set_option maxHeartbeats 4000000
/-! HeadAs: the part K of the heap by paths, forced -/
namespace HE
open PySem PySem.W PySem.Spec PyProof.Rows L2 He
def ent (g : Addr → Option Obj) (a : Addr) (x : Str) : Option Value := match g a with
  | some ⟨_, _, .dict es _, _⟩ => (es.toList.find? (·.key.isStr x)).map (·.val)
  | _ => none
def rf : Option Value → Addr
  | some (.ref a) => a
  | _ => 0
/-- a def: itself, its code, its cells -/
def fnAs (g : Addr → Option Obj) (f : Addr) : List Addr := match g f with
  | some ⟨_, _, .func fd, _⟩ => f :: (refV fd.code ++ fd.closure.map (·.2))
  | _ => []
/-- a class: itself, its names, the methods ms -/
def clAs (g : Addr → Option Obj) (p : Str × List Str) : List Addr :=
  let C := rf (ent g mainGlobals p.1)
  match g C with
  | some ⟨_, _, .cls cd, _⟩ => C :: cd.ns :: p.2.flatMap fun m => fnAs g (rf (ent g cd.ns m))
  | _ => []
def pathAs (g : Addr → Option Obj) (cls : List (Str × List Str)) (fns : List Str) : List Addr := mainGlobals :: cStatics :: sysModules :: (cls.flatMap (clAs g) ++ fns.flatMap fun x => fnAs g (rf (ent g mainGlobals x)))
def frNats {α : Type} : List Nat → (List Nat → α) → α
  | [], k => k []
  | a :: r, k => HandSHeadRun.frNat a fun a => frNats r fun r => k (a :: r)
theorem frNats_eq {α : Type} : ∀ (l : List Nat) (k : List Nat → α), frNats l k = k l
  | [], _ => rfl
  | a :: r, k => by
    unfold frNats
    rw [HandSHeadRun.frNat_eq, frNats_eq r]
def frObj {α : Type} (o : Obj) (k : Obj → α) : α := match o with
  | ⟨c, d, dt, sl⟩ => (match dt with
    | .cls cd => (match cd with | ⟨a1, a2, a3, a4, a5, a6, a7, a8, a9, a10, a11⟩ => k ⟨c, d, .cls ⟨a1, a2, a3, a4, a5, a6, a7, a8, a9, a10, a11⟩, sl⟩)
    | dt => k ⟨c, d, dt, sl⟩)
theorem frObj_eq {α : Type} (o : Obj) (k : Obj → α) : frObj o k = k o := by
  obtain ⟨c, d, dt, sl⟩ := o
  cases dt <;> rfl
def frFrag {α : Type} (g : Addr → Option Obj) : List Nat → (Frag → α) → α
  | [], k => k []
  | a :: r, k => match g a with
    | some o => frObj o fun o => frFrag g r fun K => k ((a, o) :: K)
    | none => frFrag g r k
theorem frFrag_eq {α : Type} (g : Addr → Option Obj) : ∀ (as : List Nat) (k : Frag → α), frFrag g as k = k (frG g as)
  | [], _ => rfl
  | a :: r, k => by
    unfold frFrag frG
    rw [List.filterMap_cons]
    cases e : g a with
    | none =>
      simp only [Option.map_none]
      rw [frFrag_eq g r]
      rfl
    | some o =>
      simp only [Option.map_some]
      rw [frObj_eq, frFrag_eq g r]
      rfl
end HE
end
section
set_option Elab.async false
set_option linter.all false
set_option maxRecDepth 100000
set_option maxHeartbeats 4000000
/-! HeadX: facts of classes, errors and defaults as Bools; the part K by paths, with defaults -/
namespace HE
open PySem PySem.W PySem.Spec PyProof.Rows L2 He PySem.EK
/-- a default's tuple and what it holds -/
def dfAs (g : Addr → Option Obj) : Value → List Addr
  | .ref T => T :: (match g T with
    | some ⟨_, _, .seq its _, _⟩ => its.toList.flatMap refV
    | _ => [])
  | _ => []
def fnAsX (g : Addr → Option Obj) (f : Addr) : List Addr := match g f with
  | some ⟨_, _, .func fd, _⟩ => f :: (refV fd.code ++ (fd.closure.map (·.2) ++ dfAs g fd.defaults))
  | _ => []
def clAsX (g : Addr → Option Obj) (p : Str × List Str) : List Addr :=
  let C := rf (ent g mainGlobals p.1)
  match g C with
  | some ⟨_, _, .cls cd, _⟩ => C :: cd.ns :: p.2.flatMap fun m => fnAsX g (rf (ent g cd.ns m))
  | _ => []
def pathX (g : Addr → Option Obj) (cls : List (Str × List Str)) (fns : List Str) : List Addr := mainGlobals :: cStatics :: sysModules :: (cls.flatMap (clAsX g) ++ fns.flatMap fun x => fnAsX g (rf (ent g mainGlobals x)))
def kitB (K : Frag) (C : Addr) (c : Value) (b : Bool) : Bool := decide (kitOne K (.ref C) c = some b)
def sysB (K : Frag) : Bool := decide ((K.lookup sysModules).map (·.cls) = some (.type "dict"))
theorem sysB_ok {K : Frag} (h : sysB K = true) : NoSys K := by
  unfold sysB at h
  unfold NoSys
  exact of_decide_eq_true h
def cB (K : Frag) (C : Addr) : Bool :=
  eqO (findIn K (.ref C) "__class__") (some (some (.builtin "object.__class__"))) && (eqO (specialIn K (.builtin "object.__class__") "__get__") (some (some (.builtin "getset_descriptor.__get__"))) &&
  (eqB (takesIn K (.builtin "object.__class__")) (some true) && eqB (mroIn K C (.type "object")) (some true)))
theorem excC_of {K : Frag} {C : Addr} (ga : findIn K (.ref C) "__getattribute__" = some (some (.builtin "BaseException.__getattribute__"))) (gg : findIn K (.ref C) "__getattr__" = some none)
    (ex : subIn K (.ref C) (.type "BaseException") = some true) (hd : hasDictIn K C = true) (h : cB K C = true) : ExcC K C := by
  obtain ⟨h1, h⟩ := ba h
  obtain ⟨h2, h⟩ := ba h
  obtain ⟨h3, h4⟩ := ba h
  exact ⟨ga, gg, ex, hd, eqO_ok h1, eqO_ok h2, of_decide_eq_true h3, of_decide_eq_true h4⟩
def insB (K : Frag) (C : Addr) : Bool := cB K C && kitB K C (.ref C) true
theorem insB_ok {K : Frag} {C : Addr} (c : Cls K C) (h : insB K C = true) : C8.InsC K C := by
  obtain ⟨h, h5⟩ := ba h
  obtain ⟨h1, h⟩ := ba h
  obtain ⟨h2, h⟩ := ba h
  obtain ⟨h3, h4⟩ := ba h
  exact ⟨c, eqO_ok h1, eqO_ok h2, of_decide_eq_true h3, of_decide_eq_true h4, of_decide_eq_true h5⟩
def oeB (K : Frag) (C : Addr) : Bool := eqO (findIn K (.ref C) "__eq__") (some (some (.ref (ma K C "__eq__")))) && (isFn K (.ref (ma K C "__eq__")) && (eqO (findIn K (.ref C) "__ne__") (some (some (.builtin "object.__ne__"))) && eqB (mroIn K C (.type "object")) (some true)))
theorem oeB_ok {K : Frag} {C : Addr} (h : oeB K C = true) : OwnEq K C (ma K C "__eq__") := by
  obtain ⟨h1, h⟩ := ba h
  obtain ⟨h2, h⟩ := ba h
  obtain ⟨h3, h4⟩ := ba h
  exact ⟨eqO_ok h1, h2, eqO_ok h3, of_decide_eq_true h4⟩
/-- an empty tuple -/
def tup0B (K : Frag) (a : Addr) : Bool := match K.lookup a with
  | some ⟨.type c, _, .seq its _, _⟩ => decide (c = "tuple") && (match its.toList with
    | [] => true
    | _ => false)
  | _ => false
theorem tup0B_ok {K : Frag} {a : Addr} (h : tup0B K a = true) (H : Hp) : SqT K H a [] := by
  unfold tup0B at h
  cases q : K.lookup a with
  | none =>
    rw [q] at h
    cases h
  | some o =>
    obtain ⟨oc, od, dt, osl⟩ := o
    rw [q] at h
    cases oc with
    | type c =>
      cases dt with
      | seq its n =>
        obtain ⟨h1, h2⟩ := ba (show (decide (c = "tuple") && (match its.toList with
          | [] => true
          | _ => false)) = true from h)
        cases e : its.toList with
        | nil =>
          refine .inr ⟨_, its, n, q, congrArg Value.type (of_decide_eq_true h1), rfl, ?_, ?_⟩
          · have z : its.size = 0 := by
              rw [← Array.length_toList, e]
              rfl
            rw [z]
            exact Nat.zero_le _
          · rw [e]
            exact .nil
        | cons u us =>
          rw [e] at h2
          cases h2
      | _ => cases h
    | _ => cases dt <;> cases h
/-- forced, by paths -/
def fkX {α : Type} (g : Addr → Option Obj) (cls : List (Str × List Str)) (fns : List Str) (f : Frag → α) : α := frNats (pathX g cls fns) fun as => frFrag g as f
theorem fkX_eq {α : Type} (g : Addr → Option Obj) (cls : List (Str × List Str)) (fns : List Str) (f : Frag → α) : fkX g cls fns f = f (He.frG g (pathX g cls fns)) := by
  unfold fkX
  rw [frNats_eq, frFrag_eq]
theorem comb {σ A B C D : Type} {o : Option σ} {a : σ → A} {b : σ → B} {c : σ → C} {p : σ → D} {C' : Type} {ob : σ → C'} {va : A} {vb : B} {vc : C} {vd : D} {vo : C'} (h : o.map (fun s => (a s, b s, c s)) = some (va, vb, vc)) (h0 : o.map p = some vd)
    (hob : ∀ s, c s = vc → p s = vd → ob s = vo) : o.map (fun s => (a s, b s, ob s)) = some (va, vb, vo) := by
  cases o with
  | none => cases h
  | some s =>
    simp only [Option.map_some, Option.some.injEq, Prod.mk.injEq] at h h0 ⊢
    exact ⟨h.1, h.2.1, hob s h.2.2 h0⟩
theorem map_at {α β : Type} {l : List α} {f g : α → β} (e : l.map f = l.map g) {i : Nat} {d : α} (hi : l[i]? = some d) : f d = g d := by
  have z := congrArg (fun q => q[i]?) e
  simp only [List.getElem?_map, hi, Option.map_some, Option.some.injEq] at z
  exact z
end HE
end
section
set_option Elab.async false
set_option linter.all false
set_option maxRecDepth 100000
set_option maxHeartbeats 0
/-! the head's facts -/
namespace K17
open PySem PySem.Spec PyProof.Rows L2 PySem.EK HE He
def eInvalidKinds : InD := ⟨"InvalidKinds", "InvalidKinds.__init__", "FetchError", ["position"], inClass (top 3) 0, "ValueError", "ValueError.__new__", "ValueError.__init__"⟩
def eInvalidFields : InD := ⟨"InvalidFields", "InvalidFields.__init__", "FetchError", ["name"], inClass (top 4) 0, "ValueError", "ValueError.__new__", "ValueError.__init__"⟩
def eInvalidFlags : InD := ⟨"InvalidFlags", "InvalidFlags.__init__", "FetchError", ["name"], inClass (top 5) 0, "ValueError", "ValueError.__new__", "ValueError.__init__"⟩
theorem tInvalidKinds : InT eInvalidKinds := ⟨by decide, by decide +kernel, ⟨_, _, _, _, _, _, _, _, _, rfl, (.cons .nil), rfl⟩, ⟨_, rfl, rfl⟩, rfl, rfl, rfl, by decide +kernel, by decide +kernel, rfl, rfl, rfl⟩
theorem tInvalidFields : InT eInvalidFields := ⟨by decide, by decide +kernel, ⟨_, _, _, _, _, _, _, _, _, rfl, (.cons .nil), rfl⟩, ⟨_, rfl, rfl⟩, rfl, rfl, rfl, by decide +kernel, by decide +kernel, rfl, rfl, rfl⟩
theorem tInvalidFlags : InT eInvalidFlags := ⟨by decide, by decide +kernel, ⟨_, _, _, _, _, _, _, _, _, rfl, (.cons .nil), rfl⟩, ⟨_, rfl, rfl⟩, rfl, rfl, rfl, by decide +kernel, by decide +kernel, rfl, rfl, rfl⟩
theorem pInvalidKinds {qual : Str} {kV doc pm : Value} {an : Option Addr} {cda : Addr} {ct : Value} {cc : Addr} : EB (PySem.W.ksFn "__init__" qual (defArgs eInvalidKinds.st) (defBody eInvalidKinds.st) (defScope eInvalidKinds.st) .none kV doc pm an (.ref cda) ct cc) ["position"] 1 [] (@gPos) :=
  ⟨fun s self us ws h1 h2 => match us, h1, ws, h2 with | [u0], _, [], _ => .of_eq rfl, by decide +kernel, by decide +kernel, fun r _ => r⟩
theorem pInvalidFields {qual : Str} {kV doc pm : Value} {an : Option Addr} {cda : Addr} {ct : Value} {cc : Addr} : EB (PySem.W.ksFn "__init__" qual (defArgs eInvalidFields.st) (defBody eInvalidFields.st) (defScope eInvalidFields.st) .none kV doc pm an (.ref cda) ct cc) ["name"] 1 [] (@gPos) :=
  ⟨fun s self us ws h1 h2 => match us, h1, ws, h2 with | [u0], _, [], _ => .of_eq rfl, by decide +kernel, by decide +kernel, fun r _ => r⟩
theorem pInvalidFlags {qual : Str} {kV doc pm : Value} {an : Option Addr} {cda : Addr} {ct : Value} {cc : Addr} : EB (PySem.W.ksFn "__init__" qual (defArgs eInvalidFlags.st) (defBody eInvalidFlags.st) (defScope eInvalidFlags.st) .none kV doc pm an (.ref cda) ct cc) ["name"] 1 [] (@gPos) :=
  ⟨fun s self us ws h1 h2 => match us, h1, ws, h2 with | [u0], _, [], _ => .of_eq rfl, by decide +kernel, by decide +kernel, fun r _ => r⟩
def errs : List InD := [eInvalidKinds, eInvalidFields, eInvalidFlags]
abbrev PP : Program := PySem.Challenge.pw_fetchwalks_k17_schemas_refused
def errB (K : PySem.W.Frag) : Bool := errs.all fun d => d.ok PP K && cB K (He.ga K d.name)
def othB (K : PySem.W.Frag) : Bool := sysB K && (insB K (He.ga K "Schema") && (oeB K (He.ga K "Schema") && (tup0B K (He.dflAt ("Schema", some "__init__") 0 K) && (kitB K (He.ga K "InvalidKinds") (.ref (He.ga K "FetchError")) true && (kitB K (He.ga K "InvalidFields") (.ref (He.ga K "FetchError")) true && (kitB K (He.ga K "InvalidFlags") (.ref (He.ga K "FetchError")) true))))))
def dis_name : He.DefD := ⟨("is_name", none), "is_name", "is_name", defArgs s_is_name, defBody s_is_name, defScope s_is_name, [], []⟩
def dis_sequence : He.DefD := ⟨("is_sequence", none), "is_sequence", "is_sequence", defArgs s_is_sequence, defBody s_is_sequence, defScope s_is_sequence, [], []⟩
def dare_names_to : He.DefD := ⟨("are_names_to", none), "are_names_to", "are_names_to", defArgs s_are_names_to, defBody s_are_names_to, defScope s_are_names_to, [], []⟩
def dcheck_kinds : He.DefD := ⟨("check_kinds", none), "check_kinds", "check_kinds", defArgs s_check_kinds, defBody s_check_kinds, defScope s_check_kinds, [], []⟩
def dis_field : He.DefD := ⟨("is_field", none), "is_field", "is_field", defArgs s_is_field, defBody s_is_field, defScope s_is_field, [], []⟩
def dis_kind_of : He.DefD := ⟨("is_kind_of", none), "is_kind_of", "is_kind_of", defArgs s_is_kind_of, defBody s_is_kind_of, defScope s_is_kind_of, [], []⟩
def dcheck_fields : He.DefD := ⟨("check_fields", none), "check_fields", "check_fields", defArgs s_check_fields, defBody s_check_fields, defScope s_check_fields, [], []⟩
def dcheck_flags : He.DefD := ⟨("check_flags", none), "check_flags", "check_flags", defArgs s_check_flags, defBody s_check_flags, defScope s_check_flags, [], []⟩
def d_law_pot : He.DefD := ⟨("_law_pot", none), "_law_pot", "_law_pot", defArgs sPot, defBody sPot, defScope sPot, [], []⟩
def d_law_draw : He.DefD := ⟨("_law_draw", none), "_law_draw", "_law_draw", defArgs sDraw, defBody sDraw, defScope sDraw, [], []⟩
def d_law_pick : He.DefD := ⟨("_law_pick", none), "_law_pick", "_law_pick", defArgs sPick, defBody sPick, defScope sPick, [], []⟩
def d_law_named : He.DefD := ⟨("_law_named", none), "_law_named", "_law_named", defArgs s__law_named, defBody s__law_named, defScope s__law_named, [], []⟩
def d_law_scheme : He.DefD := ⟨("_law_scheme", none), "_law_scheme", "_law_scheme", defArgs s__law_scheme, defBody s__law_scheme, defScope s__law_scheme, [], []⟩
def d_law_schema : He.DefD := ⟨("_law_schema", none), "_law_schema", "_law_schema", defArgs s__law_schema, defBody s__law_schema, defScope s__law_schema, [], []⟩
def d_law_is_name : He.DefD := ⟨("_law_is_name", none), "_law_is_name", "_law_is_name", defArgs s__law_is_name, defBody s__law_is_name, defScope s__law_is_name, [], []⟩
def d_law_kinds_due : He.DefD := ⟨("_law_kinds_due", none), "_law_kinds_due", "_law_kinds_due", defArgs s__law_kinds_due, defBody s__law_kinds_due, defScope s__law_kinds_due, [], []⟩
def d_law_is_field : He.DefD := ⟨("_law_is_field", none), "_law_is_field", "_law_is_field", defArgs s__law_is_field, defBody s__law_is_field, defScope s__law_is_field, [], []⟩
def d_law_fields_due : He.DefD := ⟨("_law_fields_due", none), "_law_fields_due", "_law_fields_due", defArgs s__law_fields_due, defBody s__law_fields_due, defScope s__law_fields_due, [], []⟩
def d_law_flags_due : He.DefD := ⟨("_law_flags_due", none), "_law_flags_due", "_law_flags_due", defArgs s__law_flags_due, defBody s__law_flags_due, defScope s__law_flags_due, [], []⟩
def d_law_due : He.DefD := ⟨("_law_due", none), "_law_due", "_law_due", defArgs s__law_due, defBody s__law_due, defScope s__law_due, [], []⟩
def d_law_told : He.DefD := ⟨("_law_told", none), "_law_told", "_law_told", defArgs s__law_told, defBody s__law_told, defScope s__law_told, [], []⟩
def d_law_odd : He.DefD := ⟨("_law_odd", none), "_law_odd", "_law_odd", defArgs s__law_odd, defBody s__law_odd, defScope s__law_odd, [], []⟩
def d_law_field_spoilt : He.DefD := ⟨("_law_field_spoilt", none), "_law_field_spoilt", "_law_field_spoilt", defArgs s__law_field_spoilt, defBody s__law_field_spoilt, defScope s__law_field_spoilt, [], []⟩
def d_law_spoilt : He.DefD := ⟨("_law_spoilt", none), "_law_spoilt", "_law_spoilt", defArgs s__law_spoilt, defBody s__law_spoilt, defScope s__law_spoilt, [], []⟩
def d_law_turn_right : He.DefD := ⟨("_law_turn_right", none), "_law_turn_right", "_law_turn_right", defArgs s__law_turn_right, defBody s__law_turn_right, defScope s__law_turn_right, [], []⟩
def d_law_changed_right : He.DefD := ⟨("_law_changed_right", none), "_law_changed_right", "_law_changed_right", defArgs s__law_changed_right, defBody s__law_changed_right, defScope s__law_changed_right, [], []⟩
def dlaw : He.DefD := ⟨("law", none), "law", "law", defArgs s_law, defBody s_law, defScope s_law, [], []⟩
def dSchema___init__ : He.DefD := ⟨("Schema", some "__init__"), "__init__", "Schema.__init__", defArgs s_Schema___init__, defBody s_Schema___init__, defScope s_Schema___init__, [.adr (He.dflAt ("Schema", some "__init__") 0)], []⟩
def dSchema_links : He.DefD := ⟨("Schema", some "links"), "links", "Schema.links", defArgs s_Schema_links, defBody s_Schema_links, defScope s_Schema_links, [], []⟩
def dSchema_flags : He.DefD := ⟨("Schema", some "flags"), "flags", "Schema.flags", defArgs s_Schema_flags, defBody s_Schema_flags, defScope s_Schema_flags, [], []⟩
def dSchema___eq__ : He.DefD := ⟨("Schema", some "__eq__"), "__eq__", "Schema.__eq__", defArgs s_Schema___eq__, defBody s_Schema___eq__, defScope s_Schema___eq__, [], []⟩
def fn : List He.DefD := [dis_name, dis_sequence, dare_names_to, dcheck_kinds, dis_field, dis_kind_of, dcheck_fields, dcheck_flags, d_law_pot, d_law_draw, d_law_pick, d_law_named, d_law_scheme, d_law_schema, d_law_is_name, d_law_kinds_due, d_law_is_field, d_law_fields_due, d_law_flags_due, d_law_due, d_law_told, d_law_odd, d_law_field_spoilt, d_law_spoilt, d_law_turn_right, d_law_changed_right, dlaw, dSchema___init__, dSchema_links, dSchema_flags, dSchema___eq__]
def fa : List He.Fa := [.glo "is_name", .glo "is_sequence", .glo "are_names_to", .glo "check_kinds", .glo "is_field", .glo "is_kind_of", .glo "check_fields", .glo "check_flags", .glo "_law_pot", .glo "_law_draw", .glo "_law_pick", .glo "_law_named", .glo "_law_scheme", .glo "_law_schema", .glo "_law_is_name", .glo "_law_kinds_due", .glo "_law_is_field", .glo "_law_fields_due", .glo "_law_flags_due", .glo "_law_due", .glo "_law_told", .glo "_law_odd", .glo "_law_field_spoilt", .glo "_law_spoilt", .glo "_law_turn_right", .glo "_law_changed_right", .glo "law", .glo "FetchError", .free "len", .free "abs", .free "max", .free "min", .free "int", .free "divmod", .free "isinstance", .free "repr", .free "range", .free "all", .free "super", .free "sorted", .free "dict", .free "list", .free "tuple", .free "str", .free "bool", .free "enumerate", .glo "Schema", .str "LETTERS" L26, .int "MOST_LETTERS" 8, .int "MOST_KINDS" 6, .int "MOST_FIELDS" 12, .int "MOST_FLAGS" 12, .cls "Schema", .noat "Schema" "own_kinds", .noat "Schema" "own_fields", .noat "Schema" "own_lists", .noat "Schema" "own_flags", .mkr "Schema", .meth "Schema" "links", .meth "Schema" "flags", .exm "InvalidKinds" "InvalidKinds" true, .exm "InvalidFields" "InvalidKinds" false, .exm "InvalidFields" "InvalidFields" true, .exm "InvalidFlags" "InvalidKinds" false, .exm "InvalidFlags" "InvalidFields" false, .exm "InvalidFlags" "InvalidFlags" true]
abbrev AlE : Type := He.AlD × Bool × Bool × List InW
def obsX (K : PySem.W.Frag) : AlE := (He.obsD fa fn K, errB K, othB K, errs.map fun d => inW K d.name)
def valX : AlE := (He.valD fn, true, true, errs.map InD.val)
def SaysX (K : PySem.W.Frag) : Prop := obsX K = valX
def clsN : List (Str × List Str) := [("FetchError", []), ("InvalidKinds", ["__init__"]), ("InvalidFields", ["__init__"]), ("InvalidFlags", ["__init__"]), ("Schema", ["__init__", "links", "flags", "__eq__"])]
def fnN : List Str := ["is_name", "is_sequence", "are_names_to", "check_kinds", "is_field", "is_kind_of", "check_fields", "check_flags", "_law_pot", "_law_draw", "_law_pick", "_law_named", "_law_scheme", "_law_schema", "_law_is_name", "_law_kinds_due", "_law_is_field", "_law_fields_due", "_law_flags_due", "_law_due", "_law_told", "_law_odd", "_law_field_spoilt", "_law_spoilt", "_law_turn_right", "_law_changed_right", "law"]
def obsXG (g : Addr → Option Obj) : AlE := fkX g clsN fnN obsX
theorem obsXG_eq (g : Addr → Option Obj) : obsXG g = obsX (He.frG g (pathX g clsN fnN)) := fkX_eq g clsN fnN obsX
def hk : PySem.W.Hook where
  α := AlE
  obs := fun s => obsXG s.heap.get?
  val := fun _ => valX
  says := fun _ h => ∃ K : PySem.W.Frag, K.In h ∧ SaysX K
  of := fun _ s e => ⟨_, He.frG_in, (obsXG_eq s.heap.get?).symm.trans e⟩
  keeps := fun _ _ _ ⟨K, hK, c⟩ k => ⟨K, PySem.W.Frag.In.keeps hK k, c⟩
def ob (s : PySem.W.SharedT) : AlE := obsXG (HandSHeadRun.getT s)
theorem ob_eq (s : PySem.W.SharedT) : ob s = hk.obs s.abs := by
  have e : HandSHeadRun.getT s = s.abs.heap.get? := funext (HandSHeadRun.getT_eq s)
  show obsXG (HandSHeadRun.getT s) = obsXG s.abs.heap.get?
  rw [e]
abbrev R : PySem.W.OpenRow := PySem.W.OpenLaw.row PySem.Challenge.rw_fetchwalks_k17_schemas_refused
def names0 : List Str := ["_wall", "FetchError", "InvalidKinds", "InvalidFields", "InvalidFlags", "is_name", "is_sequence", "are_names_to", "check_kinds", "is_field", "is_kind_of", "check_fields", "check_flags", "Schema", "_law_pot", "_law_draw", "_law_pick", "_law_named", "_law_scheme", "_law_schema", "_law_is_name", "_law_kinds_due", "_law_is_field", "_law_fields_due", "_law_flags_due", "_law_due", "_law_told", "_law_odd", "_law_field_spoilt", "_law_spoilt"]
def names1 : List Str := ["_law_turn_right", "_law_changed_right", "LETTERS", "MOST_LETTERS", "MOST_KINDS", "MOST_FIELDS", "MOST_FLAGS"]
def names : List Str := names0 ++ names1
noncomputable abbrev en (w : World) (os : OsState) : Option PySem.W.SharedT := HandSHeadRun.endF (HandSHeadRun.stepQ (HandSHeadRun.denQ HandSHeadRun.tabQ) R.prog w) 20000 R.prog w os
def cS (s : PySem.W.SharedT) : He.AlD × List InW := fkX (HandSHeadRun.getT s) clsN fnN fun K => (He.obsD fa fn K, errs.map fun d => inW K d.name)
def pS (s : PySem.W.SharedT) : Bool × Bool := fkX (HandSHeadRun.getT s) clsN fnN fun K => (errB K, othB K)
theorem ob_of {s : PySem.W.SharedT} (hc : cS s = (He.valD fn, errs.map InD.val)) (h0 : pS s = (true, true)) : ob s = valX := by
  unfold cS at hc
  unfold pS at h0
  rw [fkX_eq] at hc h0
  show obsXG (HandSHeadRun.getT s) = valX
  rw [obsXG_eq]
  unfold obsX valX
  simp only [Prod.mk.injEq] at hc h0 ⊢
  exact ⟨hc.1, h0.1, h0.2, hc.2⟩
end K17
end
section
set_option Elab.async false
set_option linter.all false
set_option maxRecDepth 100000
set_option maxHeartbeats 0
namespace K17
open PySem PySem.Spec PyProof.Rows L2 PySem.EK HE He
theorem runB (w : World) (os : OsState) : (en w os).map pS = some (true, true) := by kernel_rfl
theorem runA (w : World) (os : OsState) : (en w os).map (fun s => (HandSHeadRun.looksF R.prog (PySem.W.boot_heap w.params) s.abs, HandSHeadRun.seenQ (PySem.W.view R.prog [40]) names (importedModules R.prog.main.body) (fun s => PySem.W.xlAt (PySem.W.view R.prog [40]) [] s && PySem.W.recOk R.toRowW.records s) s.abs, cS s)) = some (true, PySem.W.openGood (PySem.W.view R.prog [40]) names, (He.valD fn, errs.map InD.val)) := by kernel_rfl
theorem run (w : World) : HandSHeadRun.RunEq R (PySem.W.view R.prog [40]) hk ob 20000 names w := by
  intro os
  exact comb (runA w os) (runB w os) fun s hc h0 => ob_of hc h0
end K17
end
section
set_option Elab.async false
set_option linter.all false
set_option maxRecDepth 100000
set_option maxHeartbeats 0
namespace K17
open PySem PySem.Spec PyProof.Rows L2 PySem.EK HE He
/-! ### from the facts to the promises -/
section
variable {K : PySem.W.Frag} {h : Heap} {mg : Str → Option Value}
theorem noSuper : (PP.main.scope.names.lookup ("super" : Str)).isSome = false := by decide +kernel
theorem SaysX.d (c : SaysX K) : He.SaysD fa fn K := congrArg (fun z : AlE => z.1) c
theorem SaysX.err0 (c : SaysX K) : errB K = true := congrArg (fun z : AlE => z.2.1) c
theorem SaysX.oth (c : SaysX K) : othB K = true := congrArg (fun z : AlE => z.2.2.1) c
theorem SaysX.sys (c : SaysX K) : NoSys K := sysB_ok (ba c.oth).1
theorem SaysX.maps (c : SaysX K) : (errs.map fun d => inW K d.name) = errs.map InD.val := congrArg (fun z : AlE => z.2.2.2) c
abbrev ErrA (K : PySem.W.Frag) (mg : Str → Option Value) (d : InD) (n : Nat) : Prop := (∃ fI B newId initId bmB rs fd, ErrT PP K (He.ga K d.name) fI B newId initId bmB rs d.fs fd ∧ EB fd d.fs n [] (@gPos)) ∧ mg d.name = some (.ref (He.ga K d.name)) ∧ XfC K (He.ga K d.name) ∧ ExcC K (He.ga K d.name) ∧ ∀ f ∈ d.fs, PySem.W.findIn K (.ref (He.ga K d.name)) f = some none
theorem SaysX.err (c : SaysX K) (X : K.In h) (G : h.Ns mainGlobals mg) (i : Nat) {d : InD} {n : Nat} (hi : errs[i]? = some d) (bt : BaseT d.B d.newId d.initId d.bm) (t : InT d)
    (pos : ∀ {qual : Str} {kV doc pm : Value} {an : Option Addr} {cda : Addr} {ct : Value} {cc : Addr}, EB (PySem.W.ksFn "__init__" qual (defArgs d.st) (defBody d.st) (defScope d.st) .none kV doc pm an (.ref cda) ct cc) d.fs n [] (@gPos)) :
    ErrA K mg d n := by
  have z := List.all_eq_true.mp c.err0 d (List.mem_of_getElem? hi)
  obtain ⟨ho, hu⟩ := ba z
  have e := map_at (f := fun d => inW K d.name) (g := InD.val) c.maps hi
  obtain ⟨qual, kV, doc, pm, an, cda, ct, cc, T⟩ := errT_of bt noSuper t ho e
  obtain ⟨h1, _⟩ := ba ho
  exact ⟨⟨_, _, _, _, _, _, _, T, pos⟩, PySem.W.mg_of X G (eqO_ok h1), ⟨T.ga, T.gg, T.exC, T.hdC⟩, excC_of T.ga T.gg T.exC T.hdC hu, T.noF⟩
theorem SaysX.xInvalidKinds (c : SaysX K) (X : K.In h) (G : h.Ns mainGlobals mg) : ErrA K mg eInvalidKinds 1 := c.err X G 0 (d := eInvalidKinds) rfl base_Value tInvalidKinds pInvalidKinds
theorem SaysX.xInvalidFields (c : SaysX K) (X : K.In h) (G : h.Ns mainGlobals mg) : ErrA K mg eInvalidFields 1 := c.err X G 1 (d := eInvalidFields) rfl base_Value tInvalidFields pInvalidFields
theorem SaysX.xInvalidFlags (c : SaysX K) (X : K.In h) (G : h.Ns mainGlobals mg) : ErrA K mg eInvalidFlags 1 := c.err X G 2 (d := eInvalidFlags) rfl base_Value tInvalidFlags pInvalidFlags
theorem SaysX.bl (c : SaysX K) (X : K.In h) (G : h.Ns mainGlobals mg) : Bl mg := ⟨(He.free_ok X G (c.d.fact 28 (f := .free "len"))), (He.free_ok X G (c.d.fact 29 (f := .free "abs"))), (He.free_ok X G (c.d.fact 30 (f := .free "max"))), (He.free_ok X G (c.d.fact 31 (f := .free "min"))), (He.free_ok X G (c.d.fact 32 (f := .free "int"))), (He.free_ok X G (c.d.fact 33 (f := .free "divmod"))), (He.free_ok X G (c.d.fact 34 (f := .free "isinstance"))), (He.free_ok X G (c.d.fact 35 (f := .free "repr"))), (He.free_ok X G (c.d.fact 36 (f := .free "range"))), (He.free_ok X G (c.d.fact 37 (f := .free "all"))), (He.free_ok X G (c.d.fact 38 (f := .free "super"))), (He.free_ok X G (c.d.fact 39 (f := .free "sorted"))), (He.free_ok X G (c.d.fact 40 (f := .free "dict"))), (He.free_ok X G (c.d.fact 41 (f := .free "list"))), (He.free_ok X G (c.d.fact 42 (f := .free "tuple"))), (He.free_ok X G (c.d.fact 43 (f := .free "str"))), (He.free_ok X G (c.d.fact 44 (f := .free "bool"))), (He.free_ok X G (c.d.fact 45 (f := .free "enumerate")))⟩
theorem SaysX.Dis_name (c : SaysX K) (X : K.In h) (G : h.Ns mainGlobals mg) : Def K mg "is_name" s_is_name := let ⟨fd, F⟩ := c.d.def_ 0 (d := dis_name); ⟨_, fd, F, (He.glo_ok X G (c.d.fact 0 (f := .glo "is_name")))⟩
theorem SaysX.Dis_sequence (c : SaysX K) (X : K.In h) (G : h.Ns mainGlobals mg) : Def K mg "is_sequence" s_is_sequence := let ⟨fd, F⟩ := c.d.def_ 1 (d := dis_sequence); ⟨_, fd, F, (He.glo_ok X G (c.d.fact 1 (f := .glo "is_sequence")))⟩
theorem SaysX.Dare_names_to (c : SaysX K) (X : K.In h) (G : h.Ns mainGlobals mg) : Def K mg "are_names_to" s_are_names_to := let ⟨fd, F⟩ := c.d.def_ 2 (d := dare_names_to); ⟨_, fd, F, (He.glo_ok X G (c.d.fact 2 (f := .glo "are_names_to")))⟩
theorem SaysX.Dcheck_kinds (c : SaysX K) (X : K.In h) (G : h.Ns mainGlobals mg) : Def K mg "check_kinds" s_check_kinds := let ⟨fd, F⟩ := c.d.def_ 3 (d := dcheck_kinds); ⟨_, fd, F, (He.glo_ok X G (c.d.fact 3 (f := .glo "check_kinds")))⟩
theorem SaysX.Dis_field (c : SaysX K) (X : K.In h) (G : h.Ns mainGlobals mg) : Def K mg "is_field" s_is_field := let ⟨fd, F⟩ := c.d.def_ 4 (d := dis_field); ⟨_, fd, F, (He.glo_ok X G (c.d.fact 4 (f := .glo "is_field")))⟩
theorem SaysX.Dis_kind_of (c : SaysX K) (X : K.In h) (G : h.Ns mainGlobals mg) : Def K mg "is_kind_of" s_is_kind_of := let ⟨fd, F⟩ := c.d.def_ 5 (d := dis_kind_of); ⟨_, fd, F, (He.glo_ok X G (c.d.fact 5 (f := .glo "is_kind_of")))⟩
theorem SaysX.Dcheck_fields (c : SaysX K) (X : K.In h) (G : h.Ns mainGlobals mg) : Def K mg "check_fields" s_check_fields := let ⟨fd, F⟩ := c.d.def_ 6 (d := dcheck_fields); ⟨_, fd, F, (He.glo_ok X G (c.d.fact 6 (f := .glo "check_fields")))⟩
theorem SaysX.Dcheck_flags (c : SaysX K) (X : K.In h) (G : h.Ns mainGlobals mg) : Def K mg "check_flags" s_check_flags := let ⟨fd, F⟩ := c.d.def_ 7 (d := dcheck_flags); ⟨_, fd, F, (He.glo_ok X G (c.d.fact 7 (f := .glo "check_flags")))⟩
theorem SaysX.D_law_pot (c : SaysX K) (X : K.In h) (G : h.Ns mainGlobals mg) : Def K mg "_law_pot" sPot := let ⟨fd, F⟩ := c.d.def_ 8 (d := d_law_pot); ⟨_, fd, F, (He.glo_ok X G (c.d.fact 8 (f := .glo "_law_pot")))⟩
theorem SaysX.D_law_draw (c : SaysX K) (X : K.In h) (G : h.Ns mainGlobals mg) : Def K mg "_law_draw" sDraw := let ⟨fd, F⟩ := c.d.def_ 9 (d := d_law_draw); ⟨_, fd, F, (He.glo_ok X G (c.d.fact 9 (f := .glo "_law_draw")))⟩
theorem SaysX.D_law_pick (c : SaysX K) (X : K.In h) (G : h.Ns mainGlobals mg) : Def K mg "_law_pick" sPick := let ⟨fd, F⟩ := c.d.def_ 10 (d := d_law_pick); ⟨_, fd, F, (He.glo_ok X G (c.d.fact 10 (f := .glo "_law_pick")))⟩
theorem SaysX.D_law_named (c : SaysX K) (X : K.In h) (G : h.Ns mainGlobals mg) : Def K mg "_law_named" s__law_named := let ⟨fd, F⟩ := c.d.def_ 11 (d := d_law_named); ⟨_, fd, F, (He.glo_ok X G (c.d.fact 11 (f := .glo "_law_named")))⟩
theorem SaysX.D_law_scheme (c : SaysX K) (X : K.In h) (G : h.Ns mainGlobals mg) : Def K mg "_law_scheme" s__law_scheme := let ⟨fd, F⟩ := c.d.def_ 12 (d := d_law_scheme); ⟨_, fd, F, (He.glo_ok X G (c.d.fact 12 (f := .glo "_law_scheme")))⟩
theorem SaysX.D_law_schema (c : SaysX K) (X : K.In h) (G : h.Ns mainGlobals mg) : Def K mg "_law_schema" s__law_schema := let ⟨fd, F⟩ := c.d.def_ 13 (d := d_law_schema); ⟨_, fd, F, (He.glo_ok X G (c.d.fact 13 (f := .glo "_law_schema")))⟩
theorem SaysX.D_law_is_name (c : SaysX K) (X : K.In h) (G : h.Ns mainGlobals mg) : Def K mg "_law_is_name" s__law_is_name := let ⟨fd, F⟩ := c.d.def_ 14 (d := d_law_is_name); ⟨_, fd, F, (He.glo_ok X G (c.d.fact 14 (f := .glo "_law_is_name")))⟩
theorem SaysX.D_law_kinds_due (c : SaysX K) (X : K.In h) (G : h.Ns mainGlobals mg) : Def K mg "_law_kinds_due" s__law_kinds_due := let ⟨fd, F⟩ := c.d.def_ 15 (d := d_law_kinds_due); ⟨_, fd, F, (He.glo_ok X G (c.d.fact 15 (f := .glo "_law_kinds_due")))⟩
theorem SaysX.D_law_is_field (c : SaysX K) (X : K.In h) (G : h.Ns mainGlobals mg) : Def K mg "_law_is_field" s__law_is_field := let ⟨fd, F⟩ := c.d.def_ 16 (d := d_law_is_field); ⟨_, fd, F, (He.glo_ok X G (c.d.fact 16 (f := .glo "_law_is_field")))⟩
theorem SaysX.D_law_fields_due (c : SaysX K) (X : K.In h) (G : h.Ns mainGlobals mg) : Def K mg "_law_fields_due" s__law_fields_due := let ⟨fd, F⟩ := c.d.def_ 17 (d := d_law_fields_due); ⟨_, fd, F, (He.glo_ok X G (c.d.fact 17 (f := .glo "_law_fields_due")))⟩
theorem SaysX.D_law_flags_due (c : SaysX K) (X : K.In h) (G : h.Ns mainGlobals mg) : Def K mg "_law_flags_due" s__law_flags_due := let ⟨fd, F⟩ := c.d.def_ 18 (d := d_law_flags_due); ⟨_, fd, F, (He.glo_ok X G (c.d.fact 18 (f := .glo "_law_flags_due")))⟩
theorem SaysX.D_law_due (c : SaysX K) (X : K.In h) (G : h.Ns mainGlobals mg) : Def K mg "_law_due" s__law_due := let ⟨fd, F⟩ := c.d.def_ 19 (d := d_law_due); ⟨_, fd, F, (He.glo_ok X G (c.d.fact 19 (f := .glo "_law_due")))⟩
theorem SaysX.D_law_told (c : SaysX K) (X : K.In h) (G : h.Ns mainGlobals mg) : Def K mg "_law_told" s__law_told := let ⟨fd, F⟩ := c.d.def_ 20 (d := d_law_told); ⟨_, fd, F, (He.glo_ok X G (c.d.fact 20 (f := .glo "_law_told")))⟩
theorem SaysX.D_law_odd (c : SaysX K) (X : K.In h) (G : h.Ns mainGlobals mg) : Def K mg "_law_odd" s__law_odd := let ⟨fd, F⟩ := c.d.def_ 21 (d := d_law_odd); ⟨_, fd, F, (He.glo_ok X G (c.d.fact 21 (f := .glo "_law_odd")))⟩
theorem SaysX.D_law_field_spoilt (c : SaysX K) (X : K.In h) (G : h.Ns mainGlobals mg) : Def K mg "_law_field_spoilt" s__law_field_spoilt := let ⟨fd, F⟩ := c.d.def_ 22 (d := d_law_field_spoilt); ⟨_, fd, F, (He.glo_ok X G (c.d.fact 22 (f := .glo "_law_field_spoilt")))⟩
theorem SaysX.D_law_spoilt (c : SaysX K) (X : K.In h) (G : h.Ns mainGlobals mg) : Def K mg "_law_spoilt" s__law_spoilt := let ⟨fd, F⟩ := c.d.def_ 23 (d := d_law_spoilt); ⟨_, fd, F, (He.glo_ok X G (c.d.fact 23 (f := .glo "_law_spoilt")))⟩
theorem SaysX.D_law_turn_right (c : SaysX K) (X : K.In h) (G : h.Ns mainGlobals mg) : Def K mg "_law_turn_right" s__law_turn_right := let ⟨fd, F⟩ := c.d.def_ 24 (d := d_law_turn_right); ⟨_, fd, F, (He.glo_ok X G (c.d.fact 24 (f := .glo "_law_turn_right")))⟩
theorem SaysX.D_law_changed_right (c : SaysX K) (X : K.In h) (G : h.Ns mainGlobals mg) : Def K mg "_law_changed_right" s__law_changed_right := let ⟨fd, F⟩ := c.d.def_ 25 (d := d_law_changed_right); ⟨_, fd, F, (He.glo_ok X G (c.d.fact 25 (f := .glo "_law_changed_right")))⟩
theorem SaysX.Dlaw (c : SaysX K) (X : K.In h) (G : h.Ns mainGlobals mg) : Def K mg "law" s_law := let ⟨fd, F⟩ := c.d.def_ 26 (d := dlaw); ⟨_, fd, F, (He.glo_ok X G (c.d.fact 26 (f := .glo "law")))⟩
theorem SaysX.gc (c : SaysX K) (X : K.In h) (G : h.Ns mainGlobals mg) : Gc mg := ⟨(He.str_ok X G (c.d.fact 47 (f := .str "LETTERS" L26))), (He.int_ok X G (c.d.fact 48 (f := .int "MOST_LETTERS" 8)))⟩
theorem SaysX.gm (c : SaysX K) (X : K.In h) (G : h.Ns mainGlobals mg) : Gm mg := ⟨(He.int_ok X G (c.d.fact 49 (f := .int "MOST_KINDS" 6))), (He.int_ok X G (c.d.fact 50 (f := .int "MOST_FIELDS" 12))), (He.int_ok X G (c.d.fact 51 (f := .int "MOST_FLAGS" 12)))⟩
theorem SaysX.errs (c : SaysX K) (X : K.In h) (G : h.Ns mainGlobals mg) : Errs PP K mg (He.ga K "InvalidKinds") (He.ga K "InvalidFields") (He.ga K "InvalidFlags") := ⟨⟨(c.xInvalidKinds X G).1, (c.xInvalidKinds X G).2.1⟩, ⟨(c.xInvalidFields X G).1, (c.xInvalidFields X G).2.1⟩, ⟨(c.xInvalidFlags X G).1, (c.xInvalidFlags X G).2.1⟩⟩
theorem SaysX.errx (c : SaysX K) (X : K.In h) (G : h.Ns mainGlobals mg) : ErrsX K mg (He.ga K "InvalidKinds") (He.ga K "InvalidFields") (He.ga K "InvalidFlags") (He.ga K "FetchError") := ⟨(c.xInvalidKinds X G).2.2.2.2 _ (.head _), (c.xInvalidFields X G).2.2.2.2 _ (.head _), (c.xInvalidFlags X G).2.2.2.2 _ (.head _), (c.xInvalidKinds X G).2.2.1, (c.xInvalidFields X G).2.2.1, (c.xInvalidFlags X G).2.2.1, (c.xInvalidKinds X G).2.2.2.1, (c.xInvalidFields X G).2.2.2.1, (c.xInvalidFlags X G).2.2.2.1, of_decide_eq_true ((ba (ba (ba (ba (ba c.oth).2).2).2).2).1), of_decide_eq_true ((ba (ba (ba (ba (ba (ba c.oth).2).2).2).2).2).1), of_decide_eq_true ((ba (ba (ba (ba (ba (ba c.oth).2).2).2).2).2).2), (He.exm_ok (c.d.fact 60 (f := .exm "InvalidKinds" "InvalidKinds" true))), (He.exm_ok (c.d.fact 61 (f := .exm "InvalidFields" "InvalidKinds" false))), (He.exm_ok (c.d.fact 62 (f := .exm "InvalidFields" "InvalidFields" true))), (He.exm_ok (c.d.fact 63 (f := .exm "InvalidFlags" "InvalidKinds" false))), (He.exm_ok (c.d.fact 64 (f := .exm "InvalidFlags" "InvalidFields" false))), (He.exm_ok (c.d.fact 65 (f := .exm "InvalidFlags" "InvalidFlags" true))), (He.glo_ok X G (c.d.fact 27 (f := .glo "FetchError")))⟩
theorem SaysX.cls (c : SaysX K) : Cls K (He.ga K "Schema") := (He.cls_ok (c.d.fact 52 (f := .cls "Schema")))
theorem SaysX.sch (c : SaysX K) (X : K.In h) (G : h.Ns mainGlobals mg) : SchT K mg (He.ga K "Schema") := ⟨c.cls, (He.noat_ok (c.d.fact 53 (f := .noat "Schema" "own_kinds"))), (He.noat_ok (c.d.fact 54 (f := .noat "Schema" "own_fields"))), (He.noat_ok (c.d.fact 55 (f := .noat "Schema" "own_lists"))), (He.noat_ok (c.d.fact 56 (f := .noat "Schema" "own_flags"))), (He.glo_ok X G (c.d.fact 46 (f := .glo "Schema")))⟩
theorem SaysX.ins (c : SaysX K) : C8.InsC K (He.ga K "Schema") := insB_ok c.cls ((ba (ba c.oth).2).1)
theorem SaysX.idef (c : SaysX K) : ∃ fd, IDef K (He.ga K "Schema") (He.dflAt ("Schema", some "__init__") 0 K) (He.ma K (He.ga K "Schema") "__init__") fd := let ⟨fd, F⟩ := c.d.def_ 27 (d := dSchema___init__); ⟨fd, F, (He.mkr_ok (c.d.fact 57 (f := .mkr "Schema")))⟩
theorem SaysX.he0 (c : SaysX K) : ∀ H, SqT K H (He.dflAt ("Schema", some "__init__") 0 K) [] := tup0B_ok ((ba (ba (ba (ba c.oth).2).2).2).1)
theorem SaysX.Mlinks (c : SaysX K) : MDef K (He.ga K "Schema") "links" "Schema.links" s_Schema_links := let ⟨fd, F⟩ := c.d.def_ 28 (d := dSchema_links); ⟨_, fd, F, (He.meth_ok (c.d.fact 58 (f := .meth "Schema" "links")))⟩
theorem SaysX.Mflags (c : SaysX K) : MDef K (He.ga K "Schema") "flags" "Schema.flags" s_Schema_flags := let ⟨fd, F⟩ := c.d.def_ 29 (d := dSchema_flags); ⟨_, fd, F, (He.meth_ok (c.d.fact 59 (f := .meth "Schema" "flags")))⟩
theorem SaysX.eq (c : SaysX K) : ∃ f fd, FunD K "__eq__" "Schema.__eq__" (defArgs s_Schema___eq__) (defBody s_Schema___eq__) (defScope s_Schema___eq__) [] [] f fd ∧ OwnEq K (He.ga K "Schema") f := let ⟨fd, F⟩ := c.d.def_ 30 (d := dSchema___eq__); ⟨_, fd, F, oeB_ok ((ba (ba (ba c.oth).2).2).1)⟩
theorem SaysX.law (c : SaysX K) (X : K.In h) (G : h.Ns mainGlobals mg) {w : World} {f : Addr} (hf : mg "law" = some (.ref f)) : ∃ fd, FnP K "law" s_law f fd ∧ ∀ base : Heap, K.In base → base.Ns mainGlobals mg → FnG PP w K mg base CX0 8 f fd ["_law_script"] (spLaw K) := by
  obtain ⟨f0, fd, F, g⟩ := c.Dlaw X G
  have ef : f0 = f := by
    rw [g] at hf
    injection hf with e
    injection e
  subst ef
  refine ⟨fd, F, fun base KB GB => ?_⟩
  have B := c.bl X G
  have gc := c.gc X G
  have gm := c.gm X G
  have R := c.errs X G
  have Z := c.errx X G
  have T := c.sch X G
  obtain ⟨fi, FI⟩ := c.idef
  have isn := c_is_name (P := PP) (w := w) (base := base) (c.Dis_name X G) B gc
  have iss := c_is_sequence (P := PP) (w := w) (base := base) (c.Dis_sequence X G) B
  have isk := c_is_kind_of (P := PP) (w := w) (base := base) (c.Dis_kind_of X G) B
  have ant := c_are_names_to (c.Dare_names_to X G) B isn
  have isf := c_is_field (c.Dis_field X G) B isn isk
  have ckk := c_check_kinds (c.Dcheck_kinds X G) B gm R isn iss
  have ckf := c_check_fields (c.Dcheck_fields X G) B gm R isf ant
  have ckg := c_check_flags (c.Dcheck_flags X G) B gm R isk ant
  have lnk := c_links (P := PP) (w := w) (base := base) c.Mlinks B T
  have flg := c_flags (P := PP) (w := w) (base := base) c.Mflags B T
  have ini := ok_init FI B T ckk ckf ckg lnk
  have eqs := c_eq (P := PP) (w := w) (base := base) c.eq B T c.ins
  have lin := c__law_is_name (P := PP) (w := w) (base := base) (c.D_law_is_name X G) B
  have lif := c__law_is_field (c.D_law_is_field X G) B lin
  have dk := c__law_kinds_due (c.D_law_kinds_due X G) B lin
  have df := c__law_fields_due (c.D_law_fields_due X G) B lin lif
  have dg := c__law_flags_due (c.D_law_flags_due X G) B lin
  have due := c__law_due (c.D_law_due X G) dk df dg
  have told := c__law_told (c.D_law_told X G) B T R Z c.ins FI ini
  have scm := c__law_schema (c.D_law_schema X G) T FI ini
  have chg := c__law_changed_right (c.D_law_changed_right X G) B T FI ini c.he0 flg eqs scm
  have pot := c_pot (P := PP) (w := w) (base := base) (c.D_law_pot X G) B
  have drw := c_draw (P := PP) (w := w) (K := K) (base := base) (c.D_law_draw X G) B
  have pck := c_pick (c.D_law_pick X G) B drw
  have nmd := c__law_named (c.D_law_named X G) B drw
  have sme := c__law_scheme (c.D_law_scheme X G) B drw pck nmd
  have odd := c__law_odd (c.D_law_odd X G) pck
  have fsp := c__law_field_spoilt (c.D_law_field_spoilt X G) B drw pck odd
  have spl := c__law_spoilt (c.D_law_spoilt X G) B drw pck odd fsp
  have trn := c__law_turn_right (c.D_law_turn_right X G) B c.sys drw spl lin lif due told
  exact ok_law F B pot sme trn chg
end
end K17
end
set_option Elab.async false
set_option linter.all false
set_option maxRecDepth 100000
set_option maxHeartbeats 0
open PySem PySem.W PySem.Calls PyProof.Rows
theorem PySem.Challenge.cw_fetchwalks_k17_schemas_refused_holds : PySem.Challenge.rw_fetchwalks_k17_schemas_refused.Holds := by
  w_on; o_law
  refine HandSHeadRun.head_any (r := OpenLaw.row PySem.Challenge.rw_fetchwalks_k17_schemas_refused) (q := view (OpenLaw.row PySem.Challenge.rw_fetchwalks_k17_schemas_refused).prog [40]) (H := K17.hk) (ob := K17.ob) (M := 20000) (loose := K17.names) (d := HandSHeadRun.topDef (OpenLaw.row PySem.Challenge.rw_fetchwalks_k17_schemas_refused).prog 40) (kwd := []) K17.ob_eq
    (by kernel_rfl) (fun s => by kernel_rfl) K17.run (by kernel_rfl) (by kernel_rfl) (by kernel_rfl) (by rfl) (by first | assumption | decide +kernel) (by decide +kernel) ⟨rfl, rfl, rfl, rfl, rfl, by decide +kernel⟩ ?hw ?hc
  case hw => w_witness2
  case hc =>
    refine L2.walk_ofG (l := PySem.Challenge.rw_fetchwalks_k17_schemas_refused) (n := 63) (k := 8) (x := "_law_script") (CX := L2.CX0) rfl (by decide) (by kernel_rfl) ⟨rfl, by decide, by decide⟩ ?F (fun _ _ _ _ z => z)
    intro w mg fa h Y G hmg0
    obtain ⟨K, KX, c⟩ := Y
    have hmg : mg ("law" : PySem.Str) = some (.ref fa) := by
      have e : (HandSHeadRun.topDef (OpenLaw.row PySem.Challenge.rw_fetchwalks_k17_schemas_refused).prog 40).name = ("law" : PySem.Str) := by kernel_rfl
      rw [← e]
      exact hmg0
    obtain ⟨fd, F, hF⟩ := K17.SaysX.law c KX G (w := w) hmg
    have b := L2.FunD.bindsA (ps := ["_law_script"]) F fun _ _ _ _ _ _ us hl => match us, hl with | [_], _ => rfl
    exact ⟨K, fd, K17.spLaw K, KX, fun s v => b s [v] rfl, fun H a ns hl _ hS => ⟨a, ns, rfl, hS, hl, fun _ => rfl⟩, hF⟩
