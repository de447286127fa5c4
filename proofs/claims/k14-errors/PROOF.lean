import PyProof.Rows.All
import Wide.All
import OpenK.AllK
import Wide.FinOn
import KE.KExcSuper
import HandS.ForMost
import HandS.Exc
import HandS.ExcInit
import HandS.HeadWalk
import HandS.IsInst
import HandS.ExcIs
import KE.KExcIs
import HandS.Defaults
import HandS.Wide
import HandS.WideBits
import HandS.NoneIn
import HandS.Flow
import PySem.Challenge.RW_fetchwalks_k14_errors_made
import HandS.HeadEnd
import HandS.HeadHook1
import HandS.HeadHook2
import KE.KStateDown
import HandS.Head0
import HandS.Head1
import HandS.Head2
section
set_option Elab.async false
set_option linter.all false
set_option maxRecDepth 100000
set_option maxHeartbeats 4000000
/-! EK1: own exception classes over any base, made with keywords too: type.__call__, __new__, then the own __init__ -/
namespace PySem
namespace EK
open PySem.W PySem.Calls PyProof.Rows PySem.HandSPX
section
variable {M : Model} {A : Around} {E : Value → Shared → Prop} {h : Heap} {g : Array GenState} {d : Drawn} {t : Nat} {os : OsState}
variable {nm q : Str} {C N : Addr} {bs bm bmB : List Value} {hdct : Bool} {sn : List Str} {sub : List Value} {ab : Bool} {col : Option Bool} {dd : Option Addr} {k0 k1 k2 k3 k5 : Option Value} {B newId initId : String}
theorem check_newK (F : ExcBaseFacts B newId initId bmB) (hT : ∀ X : String, bm.contains (.type X) = bmB.contains (.type X)) {rest : List Value} {kw : List (Str × Value)} {Q : Unit → Shared → Prop}
    (hC : h.get? C = some (excClassObj nm q C N bs bm hdct sn sub ab col dd k0 k1 k2 k3 k5 newId)) (hq : Q () ⟨h, g, d, t, os⟩) : wpAny M A (checkBuiltinCall newId ⟨.ref C :: rest, kw⟩) Q E ⟨h, g, d, t, os⟩ := by
  have hcB : (Value.ref C :: bm).contains (.type B) = true := by rw [List.contains_cons, hT, F.hasB, Bool.or_true]
  have hstar := F.noStar
  simp only [checkBuiltinCall, F.newKind, F.newSplit, F.newRow]
  repeat (first
    | refine wpAny_loadPart_at hC ?_
    | (refine wpAny_isSubtype_exc hC ?_; rw [hcB])
    | refine wpAny_staticBase_exc hC ?_
    | refine wpAny_madeBy_exc hC ?_
    | simp only [bne_self_eq_false, Bool.false_eq_true, if_false]
    | wp_step)
  exact hq
end
section
variable {prog : Program} {w : World} {A : Around} {E : Value → Shared → Prop} {R : Result → Shared → Prop} {h : Heap} {g : Array GenState} {d : Drawn} {t : Nat} {os : OsState}
variable {nm q : Str} {C N : Addr} {bs bm bmB : List Value} {hdct : Bool} {sn : List Str} {sub : List Value} {ab : Bool} {col : Option Bool} {dd : Option Addr} {k0 k1 k2 k3 k5 : Option Value} {B newId initId : String}
theorem newK (F : ExcBaseFacts B newId initId bmB) (hT : ∀ X : String, bm.contains (.type X) = bmB.contains (.type X)) {rest : List Value} {kw : List (Str × Value)}
    (hC : h.get? C = some (excClassObj nm q C N bs bm hdct sn sub ab col dd k0 k1 k2 k3 k5 newId))
    (hq : R (.ok (.ret (.ref (h.objs.size + 1)))) ⟨(h.push (W.kdv_tup rest)).push (excO C h.objs.size), g, d, t, os⟩) (hrest : rest.length ≤ sizeLine) :
    codeAny (model prog w) A (.builtin newId ⟨.ref C :: rest, kw⟩) R ⟨h, g, d, t, os⟩ := by
  have hends := F.ends
  have hcB : (Value.ref C :: bm).contains (.type B) = true := by rw [List.contains_cons, hT, F.hasB, Bool.or_true]
  have hcA : (Value.ref C :: bm).contains (.type "AttributeError") = false := by rw [List.contains_cons, hT, F.noAttr]; rfl
  have hcN : (Value.ref C :: bm).contains (.type "NameError") = false := by rw [List.contains_cons, hT, F.noName]; rfl
  refine codeAny_builtinAt F.entry ?_
  unfold Builtin.«BaseException.__new__»
  refine wpAt_bind ?_
  show wpAt _ _ _ (stack >>= _) _ _ _
  refine wpAt_bind (wpAt_stack fun p below => wpAt_of_wpAny ?_)
  wp_walk
  refine wpAt_of_wpAny ?_
  rw [F.owner]
  repeat (first
    | with_reducible refine wpAny_madeHere_exc F.canon hC ?_
    | with_reducible refine wpAny_loadPart_at hC ?_
    | (with_reducible refine wpAny_isSubtype_exc hC ?_; first | rw [hcB] | rw [hcA] | rw [hcN])
    | wp_step)
  show R _ _
  rw [Heap.size_push]
  exact hq
theorem type_callK (F : ExcBaseFacts B newId initId bmB) (hT : ∀ X : String, bm.contains (.type X) = bmB.contains (.type X)) {rest : List Value} {kw : List (Str × Value)} {fI : Addr} {Q : Fin → Shared → Prop}
    (hC : h.get? C = some (excClassObj nm q C N bs bm hdct sn sub ab col dd k0 k1 k2 k3 k5 newId))
    (hi : W.Looks (model prog w) h (typeLookup (.ref C) "__init__") (some (.ref fI))) (hb : ∀ self, W.Looks (model prog w) h (bindSpecial (.ref fI) self) (.ref fI, [self])) (hrest : rest.length ≤ sizeLine)
    (hq : codeAny (model prog w) A (.call (.ref fI) ⟨.ref (h.objs.size + 1) :: rest, kw⟩)
      (fun r s' => match r with | .ok (.ret v) => v = .none ∧ Q (.done (.ret (.ref (h.objs.size + 1)))) s' | .ok _ => False | .error e => E e s')
      ⟨(h.push (W.kdv_tup rest)).push (excO C h.objs.size), g, d, t, os⟩) :
    wpAny (model prog w) A (Builtin.«type.__call__» ⟨.ref C :: rest, kw⟩) Q E ⟨h, g, d, t, os⟩ := by
  repeat (first | with_reducible refine wpAny_loadPart_at hC ?_ | with_reducible refine wpAny_madeBy_exc hC ?_ | wp_step)
  refine codeAny_call_builtin_code (Code.quiet_builtin _ F.quiet) (check_newK F hT hC ?_)
  refine newK F hT hC ?_ hrest
  show wpAny _ _ _ _ _ _
  have k : ∀ b o, h.get? b = some o → ((h.push (W.kdv_tup rest)).push (excO C h.objs.size)).get? b = some o := fun b o e => Heap.get?_push_of_some _ (Heap.get?_push_of_some _ e)
  have hC₁ := k _ _ hC
  have hget : ((h.push (W.kdv_tup rest)).push (excO C h.objs.size)).get? (h.objs.size + 1) = some (excO C h.objs.size) := by heap_get
  have hcC : (Value.ref C :: bm).contains (.ref C) = true := by simp
  have i1 := hi.keeps k
  have b1 := (hb (.ref (h.objs.size + 1))).keeps k
  unfold isInstance
  repeat (first | with_reducible refine wpAny_loadPart_at hget ?_ | (with_reducible refine wpAny_isSubtype_exc hC₁ ?_; rw [hcC]) | wp_step)
  show wpAny _ _ (typeLookup (.ref C) _) _ _ _
  refine i1.at ?_
  refine wpAny_holding (wpAny_bind (b1.at ?_))
  refine wpAny_bind (wpAny_call (codeAny_mono hq fun r s' z => ?_))
  rcases r with e | (v | _ | _ | _) <;> first | exact z | exact z.elim | skip
  obtain ⟨rfl, z⟩ := z
  first
    | exact wpAny_pure (wpAny_pure z)
    | (wp_walk; exact z)
theorem call_ownK (F : ExcBaseFacts B newId initId bmB) (hT : ∀ X : String, bm.contains (.type X) = bmB.contains (.type X)) {rest : List Value} {kw : List (Str × Value)} {fI : Addr}
    (hC : h.get? C = some (excClassObj nm q C N bs bm hdct sn sub ab col dd k0 k1 k2 k3 k5 newId))
    (hi : W.Looks (model prog w) h (typeLookup (.ref C) "__init__") (some (.ref fI))) (hb : ∀ self, W.Looks (model prog w) h (bindSpecial (.ref fI) self) (.ref fI, [self])) (hrest : rest.length ≤ sizeLine)
    (hq : codeAny (model prog w) (A.under (.builtin "type.__call__" ⟨.ref C :: rest, kw⟩)) (.call (.ref fI) ⟨.ref (h.objs.size + 1) :: rest, kw⟩) (W.InitBack (h.objs.size + 1) R)
      ⟨(h.push (W.kdv_tup rest)).push (excO C h.objs.size), g, d, t, os⟩) :
    codeAny (model prog w) A (.call (.ref C) ⟨rest, kw⟩) R ⟨h, g, d, t, os⟩ := by
  have f1 := tc_lookup
  have f2 := tc_bind (.ref C)
  have hTy : (⟨h, g, d, t, os⟩ : Shared).TypeIs (.ref C) "type" := ⟨_, hC, rfl⟩
  refine codeAny_of_tree ?_
  show wpAny _ _ (callAny (.ref C) _) _ _ _
  repeat (any_goals (first | assumption | with_reducible refine wpAny_loadPart_at hC ?_ | wp_step))
  refine ⟨rfl, ?_⟩
  refine codeAny_call_builtin_at (Code.quiet_builtin _ (by decide +kernel)) entry_typeCall (wpAny_check_type_call_sub hC (type_callK F hT hC hi hb hrest ?_))
  refine codeAny_mono hq fun r s' z => ?_
  rcases r with e | (v | _ | _ | _) <;> exact z
end
end EK
end PySem
end
section
set_option Elab.async false
set_option linter.all false
set_option maxRecDepth 100000
set_option maxHeartbeats 4000000
/-! EK2: an own exception's __init__: super().__init__('..'), then self.f = f for each field -/
namespace PySem
namespace EK
open PySem.W PySem.Calls PyProof.Rows PySem.HandSPX
open Builtin Builtin.ObjectAttr
/-! ### self.name = v, whatever the built-in base -/
section
variable {prog : Program} {w : World} {A : Around} {E : Value → Shared → Prop} {R : Result → Shared → Prop} {hp : Heap} {g : Array GenState} {d : Drawn} {t : Nat} {os : OsState}
theorem osaG {K : W.Frag} {name : Str} {tk : Tok} {v : Value} {x C : Addr} {ox : Obj} {od : Option Obj} {cd : ClassData}
    (X : K.In hp) (I : W.InstAt hp x ox C od) (hcd : W.clsIn K C = some cd) (hpass : ∀ self, refuseLoop self "__setattr__" cd.mro = pure ()) (hob : cd.mro.contains (.type "object") = true) (ha : W.findIn K (.ref C) name = some none)
    (hq : wpAny (model prog w) A.in1 (storeInOwnDict (.ref x) (.ref C) (.str name tk) name v false)
      (fun fin s' => match fin with | .done f => R (.ok f) s' | .again c' => c'.quiet = true ∧ codeAny (model prog w) A c' R s') (fun e s' => R (.error e) s') ⟨hp, g, d, t, os⟩) :
    codeAny (model prog w) A (.call (.builtin "object.__setattr__") ⟨[.ref x, .str name tk, v], []⟩) R ⟨hp, g, d, t, os⟩ := by
  have SF := F.store_object
  have hne : ¬ (cd.mro.isEmpty = true) := fun z => by
    rw [List.isEmpty_iff.mp z] at hob
    exact Bool.noConfusion hob
  have sub : W.Looks (model prog w) hp (isInstance (.ref x) (.type "object")) true := I.type.andThen (W.looks_mroIn X (by unfold W.mroIn; rw [hcd, Option.bind_some, if_neg hne, hob]))
  refine codeAny_call_builtin SF.slot.plain SF.entry (@W.check_slot (model prog w) _ _ ⟨hp, g, d, t, os⟩ "object.__setattr__" "object" "__setattr__" (.ref x) [.str name tk, v] [] _ SF.kind SF.split sub (SF.args (.ref x) (.str name tk) v) ?_)
  have hmr : W.Looks (model prog w) hp (mroOf (.ref C)) cd.mro := (W.looks_clsIn X hcd).andThen .now
  have L3 : W.Looks (model prog w) hp (storeTaker? none) none := .now
  rw [W.osa_eq, refuse_eq]
  refine wpAny_bind (wpAny_bind (I.type.at (wpAny_bind (hmr.at ?_))))
  rw [hpass]
  refine wpAny_pure (wpAny_bind (I.type.at (wpAny_bind ((W.looks_findIn X ha).at (wpAny_bind (L3.at ?_))))))
  exact hq
theorem osa_first {K : W.Frag} {name : Str} {tk : Tok} {v : Value} {x C : Addr} {fv : Array Value} {cd : ClassData}
    (X : K.In hp) (hx : hp.get? x = some { cls := .ref C, data := .fields fv }) (hcd : W.clsIn K C = some cd) (hpass : ∀ self, refuseLoop self "__setattr__" cd.mro = pure ()) (hob : cd.mro.contains (.type "object") = true) (hh : cd.hasDict = true) (ha : W.findIn K (.ref C) name = some none)
    (hq : ∀ h' tk' dx, (∀ b o, b ≠ x → hp.get? b = some o → h'.get? b = some o) → hp.objs.size ≤ dx → dx ≠ x → h'.get? x = some { cls := .ref C, dict := some dx, data := .fields fv } →
      h'.Ns1 dx (fun y => if y = name then some v else none) → R (.ok (.ret .none)) ⟨h', g, d, tk', os⟩) :
    codeAny (model prog w) A (.call (.builtin "object.__setattr__") ⟨[.ref x, .str name tk, v], []⟩) R ⟨hp, g, d, t, os⟩ := by
  have I : W.InstAt hp x { cls := .ref C, data := .fields fv } C none := ⟨hx, rfl, rfl, trivial⟩
  have hxs : x ≠ hp.objs.size := Nat.ne_of_lt (Heap.lt_size hx)
  refine osaG X I hcd hpass hob ha ?_
  have hcls : W.Looks (model prog w) hp (classData C) cd := W.looks_clsIn X hcd
  obtain ⟨nm, bs, mro, ns, qn, hd, sn, sb, ab, col, del⟩ := cd
  dsimp only at hh
  subst hh
  unfold storeInOwnDict ownDictForStores
  repeat (first | with_reducible refine store_in_new ?_ ?_ | with_reducible refine wpAny_loadPart_at hx ?_ | with_reducible refine hcls.at ?_ | wp_step)
  · exact ⟨_, #[], _, (Heap.get?_update_ne _ _ _ _ hxs.symm).trans (Heap.get?_push_at rfl rfl), rfl, fun e he => absurd he (by simp), fun _ => rfl⟩
  · intro h' tk' hn' hs
    have hx₁ : (hp.push { cls := .type "dict", data := .dict #[] }).get? x = some { cls := .ref C, data := .fields fv } := Heap.get?_push_of_some _ hx
    refine hq h' tk' hp.objs.size (fun b o hb ho => ?_) (Nat.le_refl _) hxs.symm ?_ hn'
    · exact (hs.2 b (Nat.ne_of_lt (Heap.lt_size ho))).trans ((Heap.get?_update_ne _ _ _ _ hb).trans (Heap.get?_push_of_some _ ho))
    · exact (hs.2 x hxs).trans (Heap.get?_update_self _ hx₁ rfl)
theorem osa_more {K : W.Frag} {name : Str} {tk : Tok} {v : Value} {x C dx : Addr} {fv : Array Value} {cd : ClassData} {m0 : Str → Option Value} {nl : List Str}
    (X : K.In hp) (hx : hp.get? x = some { cls := .ref C, dict := some dx, data := .fields fv }) (hns : hp.Ns1 dx m0) (hw : Within m0 nl) (hz : nl.length ≤ 1000) (hcd : W.clsIn K C = some cd) (hpass : ∀ self, refuseLoop self "__setattr__" cd.mro = pure ()) (hob : cd.mro.contains (.type "object") = true) (hh : cd.hasDict = true)
    (ha : W.findIn K (.ref C) name = some none)
    (hq : ∀ h' tk', (∀ b o, b ≠ dx → hp.get? b = some o → h'.get? b = some o) → h'.Ns1 dx (fun y => if y = name then some v else m0 y) → R (.ok (.ret .none)) ⟨h', g, d, tk', os⟩) :
    codeAny (model prog w) A (.call (.builtin "object.__setattr__") ⟨[.ref x, .str name tk, v], []⟩) R ⟨hp, g, d, t, os⟩ := by
  obtain ⟨oD, esD, epD, hoD, hdD, _⟩ := hns.count hw
  have I : W.InstAt hp x { cls := .ref C, dict := some dx, data := .fields fv } C (some oD) := ⟨hx, rfl, rfl, hoD⟩
  refine osaG X I hcd hpass hob ha ?_
  have hcls : W.Looks (model prog w) hp (classData C) cd := W.looks_clsIn X hcd
  obtain ⟨nm, bs, mro, ns, qn, hd, sn, sb, ab, col, del⟩ := cd
  dsimp only at hh
  subst hh
  unfold storeInOwnDict ownDictForStores
  repeat (first | with_reducible refine PySem.OEX.store_in_old hns hw hz ?_ | with_reducible refine wpAny_loadPart_at hx ?_ | with_reducible refine hcls.at ?_ | wp_step)
  intro h' tk' hn' hs
  exact hq h' tk' (fun b o hb ho => (hs.2 b hb).trans ho) hn'
end

/-! ### the built-in __init__ bound by super(), called -/
section
variable {prog : Program} {w : World} {A : Around} {E : Value → Shared → Prop} {h : Heap} {g : Array GenState} {d : Drawn} {t : Nat} {os : OsState}
variable {nm q : Str} {C N : Addr} {bs bm bmB : List Value} {hdct : Bool} {sn : List Str} {sub : List Value} {ab : Bool} {col : Option Bool} {dd : Option Addr} {k0 k1 k2 k3 k5 : Option Value} {B newId initId : String}
theorem call_mw (FB : ExcBaseFacts B newId initId bmB) {u e t0 : Addr} {rest : List Value} {Q : Value → Shared → Prop}
    (hC : h.get? C = some (excClassObj nm q C N bs bm hdct sn sub ab col dd k0 k1 k2 k3 k5 newId)) (he : h.get? e = some (excO C t0)) (hu : h.get? u = some (kxs_mw initId e)) (hrest : rest.length ≤ sizeLine)
    (hq : ∀ h' t1, (∀ b o, b ≠ e → h.get? b = some o → h'.get? b = some o) → h'.get? e = some (excO C t1) → Q .none ⟨h', g, d, t, os⟩) :
    wpAny (model prog w) A (call (.ref u) rest) Q E ⟨h, g, d, t, os⟩ := by
  refine wpAny_call (codeAny_of_tree ?_)
  show wpAny _ A.in1 (callAny (.ref u) ⟨rest, []⟩) _ _ _
  simp only [callAny]
  refine wpAny_bind (wpAny_load hu ?_)
  simp only [kxs_mw, show (Value.type "method-wrapper" == Value.type "method" || Value.type "method-wrapper" == Value.type "builtin_function_or_method" || Value.type "method-wrapper" == Value.type "method-wrapper") = true by decide, if_true]
  refine W.KFB.if_so (by decide) ?_
  refine wpAny_bind (check_bound_init FB.toExcCallFacts hC he rfl ?_)
  refine wpAny_bind (wpAny_pure (wpAny_pure ?_))
  refine ⟨plainId_quiet FB.init.plain _, codeAny_builtin FB.initEntry ?_⟩
  rw [Around.under_plainId FB.init.plain _]
  wp_walk
  refine hq _ h.objs.size (fun b o hb ho => ?_) ?_
  · rw [Heap.get?_update_other _ _ (Ne.symm hb)]
    exact Heap.get?_push_of_some _ ho
  · rw [Heap.get?_update_self _ (Heap.get?_push_of_some _ he) rfl]
    rfl
end

/-! ### the body -/
inductive IsAsg : List Str → List Stmt → Prop
  | nil : IsAsg [] []
  | cons {f : Str} {fs : List Str} {q1 q2 q3 q4 : Pos} {r : List Stmt} (t : IsAsg fs r) : IsAsg (f :: fs) (.Assign [.Attribute (.Name "self" q1) f q2] (.Name f q3) q4 :: r)

/-- the exception at x: its fields so far (the newest first), its dict from n on -/
def ExAt (n : Nat) (h : Heap) (x C : Addr) (done : List (Str × Value)) : Prop :=
  (done = [] ∧ ∃ t : Addr, h.get? x = some (excO C t)) ∨
  (done ≠ [] ∧ ∃ (dx t : Addr), n ≤ dx ∧ dx ≠ x ∧ h.get? x = some { cls := .ref C, dict := some dx, data := .fields #[.ref t, .none, .none, .none, .bool false, .none] } ∧ h.Ns1 dx (fun y => done.lookup y))

theorem lookup_cons_fun (f : Str) (v : Value) (done : List (Str × Value)) : (fun y => if y = f then some v else done.lookup y) = fun y => ((f, v) :: done).lookup y := by
  funext y
  by_cases e : y = f
  · subst e
    simp [List.lookup]
  · have q : (y == f) = false := by simpa using e
    simp [List.lookup, q, e]
theorem within_lookup : ∀ (done : List (Str × Value)), Within (fun y => done.lookup y) (done.map (·.1)) := by
  intro done y hy
  induction done with
  | nil => exact absurd rfl hy
  | cons p r ih =>
    obtain ⟨f, v⟩ := p
    by_cases e : y = f
    · rw [e]
      exact List.mem_cons_self ..
    · have q : (y == f) = false := by simpa using e
      refine List.mem_cons_of_mem _ (ih ?_)
      simpa [List.lookup, q] using hy
section
variable {prog : Program} {w : World} {A : Around} {E : Value → Shared → Prop} {g : Array GenState} {d : Drawn} {os : OsState}
theorem asgs {K : W.Frag} {h0 : Heap} {env : Env} {x C : Addr} {m : Str → Option Value} {cd : ClassData} {val : Str → Value} (X0 : K.In h0) (hnx : K.lookup x = none) (hxL : env.locals ≠ x)
    (hk : env.scope.kind = .function) (hself : env.kindOf "self" = some .local) (hms : m "self" = some (.ref x))
    (sa : findIn K (.ref C) "__setattr__" = some (some (.builtin "object.__setattr__")))
    (hcd : W.clsIn K C = some cd) (hpass : ∀ self, refuseLoop self "__setattr__" cd.mro = pure ()) (hob : cd.mro.contains (.type "object") = true) (hh : cd.hasDict = true) :
    ∀ {fs : List Str} {asg : List Stmt}, IsAsg fs asg → (∀ f ∈ fs, env.kindOf f = some .local ∧ m f = some (val f) ∧ (f == ("__debug__" : Str)) = false ∧ findIn K (.ref C) f = some none) →
    ∀ {hp : Heap} {t : Nat} {done : List (Str × Value)} {Q : Flow → Shared → Prop}, done.length + fs.length ≤ 900 → (∀ b o, b ≠ x → h0.get? b = some o → hp.get? b = some o) → h0.objs.size ≤ env.locals → hp.Ns env.locals m → ExAt (env.locals + 1) hp x C done →
    (∀ hp' t', (∀ b o, b ≠ x → h0.get? b = some o → hp'.get? b = some o) → ExAt (env.locals + 1) hp' x C ((fs.map fun f => (f, val f)).reverse ++ done) → Q .next ⟨hp', g, d, t', os⟩) →
    wpAny (model prog w) A (execs asg env) Q E ⟨hp, g, d, t, os⟩ := by
  intro fs asg ia
  induction ia with
  | nil =>
    intro _ hp t done Q _ keep _ _ ex hq
    exact wpAny_execs_nil (hq hp t keep ex)
  | @cons f fs q1 q2 q3 q4 r ta ih =>
    intro hf hp t done Q hlen keep hL hns ex hq
    obtain ⟨hkf, hmf, hdb, hno⟩ := hf f (List.mem_cons_self ..)
    have XK : K.In hp := fun a o e => keep a o (fun z => by rw [z, hnx] at e; cases e) (X0 a o e)
    refine wpAny_execs_cons (plainObj_wpAny_Assign_Attribute ?_)
    refine wpAny_Name (wpAny_loadName_local hk hkf hns hmf (wpAny_Name (wpAny_loadName_local hk hself hns hms ?_) (by decide))) hdb
    have fin : ∀ hp' t', (∀ b o, b ≠ x → h0.get? b = some o → hp'.get? b = some o) → hp'.Ns env.locals m → ExAt (env.locals + 1) hp' x C ((f, val f) :: done) →
        wpAny (model prog w) A (execs r env) Q E ⟨hp', g, d, t', os⟩ := fun hp' t' keep' hns' ex' => by
      refine ih (fun f' hf' => hf f' (List.mem_cons_of_mem _ hf')) ?_ keep' hL hns' ex' fun hp2 t2 k2 e2 => hq hp2 t2 k2 ?_
      · simp only [List.length_cons] at hlen ⊢
        omega
      · simpa using e2
    rcases ex with ⟨rfl, t1, hx⟩ | ⟨_, dx, t1, hn, hdx, hx, hd1⟩
    · refine set_plain XK (ox := excO C t1) (od := none) ⟨hx, rfl, rfl, trivial⟩ sa ?_
      refine osa_first XK hx hcd hpass hob hh hno (fun h' tk' dx k hsz hne hx' hn' => ?_)
      have hLt : env.locals < hp.objs.size := hns.lt
      refine fin h' tk' (fun b o hb e => k b o hb (keep b o hb e)) (hns.at fun o e => k _ o hxL e) (.inr ⟨List.cons_ne_nil _ _, dx, t1, Nat.le_trans (Nat.succ_le_of_lt hLt) hsz, hne, hx', ?_⟩)
      have e := lookup_cons_fun f (val f) []
      have e2 : (fun y => if y = f then some (val f) else none) = fun y => ([(f, val f)] : List (Str × Value)).lookup y := e
      rw [← e2]
      exact hn'
    · obtain ⟨oD, _, _, hoD, _, _⟩ := hd1.count (within_lookup done)
      refine set_plain XK (ox := { cls := .ref C, dict := some dx, data := .fields #[.ref t1, .none, .none, .none, .bool false, .none] }) (od := some oD) ⟨hx, rfl, rfl, hoD⟩ sa ?_
      refine osa_more XK hx hd1 (within_lookup done) (by rw [List.length_map]; omega) hcd hpass hob hh hno (fun h' tk' k hn' => ?_)
      refine fin h' tk' (fun b o hb e => k b o (fun z => ?_) (keep b o hb e)) (hns.at fun o e => k _ o (Nat.ne_of_lt (Nat.lt_of_succ_le hn)) e) (.inr ⟨List.cons_ne_nil _ _, dx, t1, hn, hdx, k _ _ (Ne.symm hdx) hx, ?_⟩)
      · have z2 : b < env.locals := Nat.lt_of_lt_of_le (Heap.lt_size e) hL
        exact Nat.ne_of_lt (Nat.lt_of_lt_of_le z2 (Nat.le_trans (Nat.le_succ _) hn)) z
      · rw [← lookup_cons_fun]
        exact hn'
end
end EK
end PySem
end
section
set_option Elab.async false
set_option linter.all false
set_option maxRecDepth 100000
set_option maxHeartbeats 4000000
/-! EK3: the whole of __init__, the call of the class -/
namespace PySem
namespace EK
open PySem.W PySem.Calls PyProof.Rows PySem.HandSPX
open Builtin Builtin.ObjectAttr
/-- super().__init__(txt), then the fields -/
def IsInit (fs : List Str) (body : List Stmt) : Prop := ∃ (txt : Str) (j : Nat) (p0 p1 p2 p3 p4 p5 : Pos) (asg : List Stmt),
  body = .Expr (.Call (.Attribute (.Call (.Name "super" p0) [] [] p1) "__init__" p2) [.Constant (.str txt) j p3] [] p4) p5 :: asg ∧ IsAsg fs asg ∧ (p2.endLine == p4.line) = true

/-- what the program's text says of a built-in base of errors -/
structure BaseT (B newId initId : String) (bmB : List Value) : Prop where
  FB : ExcBaseFacts B newId initId bmB
  KF : KxsFacts B initId
  pass : ∀ self, refuseLoop self "__setattr__" bmB = pure ()
  obj : bmB.contains (.type "object") = true
  noref : ∀ c : Addr, bmB.contains (.ref c) = false
theorem base_Value : BaseT "ValueError" "ValueError.__new__" "ValueError.__init__" [.type "ValueError", .type "Exception", .type "BaseException", .type "object"] :=
  ⟨F.excBase_ValueError, kxs_ValueError, F.store_ValueError.passes, by decide +kernel, fun _ => rfl⟩
theorem base_Lookup : BaseT "LookupError" "LookupError.__new__" "LookupError.__init__" [.type "LookupError", .type "Exception", .type "BaseException", .type "object"] :=
  ⟨F.excBase_LookupError, kxs_LookupError, F.store_LookupError.passes, by decide +kernel, fun _ => rfl⟩
theorem base_Runtime : BaseT "RuntimeError" "RuntimeError.__new__" "RuntimeError.__init__" [.type "RuntimeError", .type "Exception", .type "BaseException", .type "object"] :=
  ⟨F.excBase_RuntimeError, kxs_RuntimeError, F.store_RuntimeError.passes, by decide +kernel, fun _ => rfl⟩
theorem base_Arith : BaseT "ArithmeticError" "ArithmeticError.__new__" "ArithmeticError.__init__" [.type "ArithmeticError", .type "Exception", .type "BaseException", .type "object"] :=
  ⟨F.excBase_ArithmeticError, kxs_ArithmeticError, F.store_ArithmeticError.passes, by decide +kernel, fun _ => rfl⟩

theorem refs_contains (rs : List Addr) (bmB : List Value) (X : String) : (rs.map Value.ref ++ bmB).contains (.type X) = bmB.contains (.type X) := by
  induction rs with
  | nil => rfl
  | cons c r ih =>
    rw [List.map_cons, List.cons_append, List.contains_cons, ih]
    rfl
theorem refs_pass (rs : List Addr) (bmB : List Value) (h : ∀ self, refuseLoop self "__setattr__" bmB = pure ()) (self : Value) : refuseLoop self "__setattr__" (rs.map Value.ref ++ bmB) = pure () := by
  induction rs with
  | nil => exact h self
  | cons c r ih =>
    rw [List.map_cons, List.cons_append, refuseLoop_ref]
    exact ih

/-- what the written part K says of the error class at C (rs: the own classes above it), of its __init__ at fI -/
structure ErrT (prog : Program) (K : Frag) (C fI : Addr) (B newId initId : String) (bmB : List Value) (rs : List Addr) (fs : List Str) (fd : FuncData) : Prop where
  base : BaseT B newId initId bmB
  cls : ∃ nm q N bs sn sub ab col dd k0 k1 k2 k3 k5, K.lookup C = some (excClassObj nm q C N bs (rs.map Value.ref ++ bmB) true sn sub ab col dd k0 k1 k2 k3 k5 newId)
  sa : findIn K (.ref C) "__setattr__" = some (some (.builtin "object.__setattr__"))
  ga : findIn K (.ref C) "__getattribute__" = some (some (.builtin "BaseException.__getattribute__"))
  gg : findIn K (.ref C) "__getattr__" = some none
  noF : ∀ f ∈ fs, findIn K (.ref C) f = some none
  few : fs.length ≤ 100
  ndb : ∀ f ∈ fs, (f == ("__debug__" : Str)) = false
  iC : findIn K (.ref C) "__init__" = some (some (.ref fI))
  tC : typeIn K (.ref fI) = some (.type "function")
  kC : keepIn K (.ref C) = true
  exC : subIn K (.ref C) (.type "BaseException") = some true
  tyC : typeIn K (.ref C) = some (.type "type")
  hdC : hasDictIn K C = true
  opq : nsIn K cStatics "thirdparty.any" = some none
  sup : ks_superIn K C C "__init__" = some (some (.builtin initId))
  subB : subIn K (.ref C) (.type B) = some true
  top : (prog.main.scope.names.lookup ("super" : Str)).isSome = false
  fn : ∃ (oc : Value) (od : Option Addr) (osl : Array (Option Value)) (qual : Str) (params : Arguments) (body : List Stmt) (scope : Scope) (dV kV doc pm : Value) (an : Option Addr) (cda : Addr) (ct : Value) (cc : Addr),
    fd = ksFn "__init__" qual params body scope dV kV doc pm an (.ref cda) ct cc ∧ K.lookup fI = some ⟨oc, od, .func fd, osl⟩ ∧ codeIn K (.ref cda) qual = true ∧
    (∃ ccl cdd vs ccs file tf, K.lookup cda = some ⟨ccl, cdd, .fields vs, ccs⟩ ∧ vs[2]? = some (.str file tf) ∧ ((prog.main.file : Str) == file) = true) ∧
    (∃ cl cld csl, K.lookup cc = some ⟨cl, cld, .cell (some (.ref C)), csl⟩) ∧ IsInit fs body ∧
    (∃ ar, (params.posonlyargs ++ params.args).head? = some ar ∧ ar.arg = "self") ∧
    scope.names.lookup ("super" : Str) = some .globalImplicit ∧ scope.names.lookup ("__class__" : Str) = some .free ∧ scope.names.lookup ("self" : Str) = some .local ∧ (∀ f ∈ fs, scope.names.lookup f = some .local) ∧
    (∀ x ∈ scope.names, x.2 ≠ .cell) ∧ scope.isCoroutine = false ∧ scope.isGenerator = false ∧ scope.kind = .function

section
variable {prog : Program} {w : World} {A : Around} {E : Value → Shared → Prop} {R : Result → Shared → Prop} {K : Frag} {C fI : Addr} {B newId initId : String} {bmB : List Value} {rs : List Addr} {fs : List Str} {fd : FuncData}
theorem ErrT.clsIn (T : ErrT prog K C fI B newId initId bmB rs fs fd) : ∃ cd, W.clsIn K C = some cd ∧ cd.mro = .ref C :: (rs.map Value.ref ++ bmB) ∧ cd.hasDict = true := by
  obtain ⟨nm, q, N, bs, sn, sub, ab, col, dd, k0, k1, k2, k3, k5, hC⟩ := T.cls
  refine ⟨{ name := nm, bases := bs, mro := .ref C :: (rs.map Value.ref ++ bmB), ns := N, qualname := q, hasDict := true, slotNames := sn, subclasses := sub, abstract := ab, collection := col, hasDel := false }, ?_, rfl, rfl⟩
  unfold W.clsIn
  rw [hC] <;> rfl
theorem err_init (T : ErrT prog K C fI B newId initId bmB rs fs fd) {s : Shared} {x t0 : Addr} {args : Args} {binds : List (Str × Value)} {val : Str → Value} {mg mb : Str → Option Value}
    (X : K.In s.heap) (hlim : s.heap.NoLimit) (hG : s.heap.Ns mainGlobals mg) (hGs : mg ("super" : Str) = none) (hB : s.heap.Ns builtinsNs mb) (hBs : mb ("super" : Str) = some (.type "super"))
    (hx : s.heap.get? x = some (excO C t0)) (hnx : K.lookup x = none) (hroom : A.depth < recursionLimit) (hbind : BindsTo s fd args binds) (hloc : ∀ y ∈ binds, fd.scope.names.lookup y.1 = some .local)
    (hms : binds.reverse.lookup ("self" : Str) = some (.ref x)) (hval : ∀ f ∈ fs, binds.reverse.lookup f = some (val f))
    (hq : ∀ h' tk, (∀ b o, b ≠ x → s.heap.get? b = some o → h'.get? b = some o) → ExAt (s.heap.objs.size + 1) h' x C (fs.map fun f => (f, val f)).reverse → R (.ok (.ret .none)) { s with heap := h', toks := tk }) :
    codeAny (model prog w) A (.call (.ref fI) args) R s := by
  obtain ⟨nm, q, N, bs, sn, sub, ab, col, dd, k0, k1, k2, k3, k5, hC⟩ := T.cls
  obtain ⟨cd, hcd, hmro, hhd⟩ := T.clsIn
  obtain ⟨oc, od, osl, qual, params, body, scope, dV, kV, doc, pm, an, cda, ct, cc, rfl, hfI, hcode, ⟨ccl, cdd, vs, ccs, file, tf, hcda, hvs, hfile⟩, ⟨cl, cld, csl, hcc⟩, ⟨txt, j, p0, p1, p2, p3, p4, p5, asg, rfl, hasg, hline⟩, ⟨ar, hp, har⟩, hks, hkc, hkself, hkf, hcell, hco, hgen, hk⟩ := T.fn
  refine ks_codeAny_call_defAt (fd := ksFn "__init__" qual params _ scope dV kV doc pm an (.ref cda) ct cc) (binds := binds) hroom (X _ _ hfI) rfl hlim (codeRec_of X hcode) rfl hbind hcell hloc (fun h₁ hns hk₁ => ?_) hco hgen hk
  have X1 : K.In h₁ := X.keeps hk₁
  have hx1 := hk₁ _ _ hx
  have hxL : s.heap.objs.size ≠ x := Nat.ne_of_gt (Heap.lt_size hx)
  have hxC : x ≠ C := fun z => by
    rw [← z] at hC
    rw [hnx] at hC
    cases hC
  have hD1 : h₁.get? C = some _ := X1 _ _ hC
  have hpass : ∀ self, refuseLoop self "__setattr__" cd.mro = pure () := fun self => by
    rw [hmro, refuseLoop_ref]
    exact refs_pass rs bmB T.base.pass self
  have hobj : cd.mro.contains (.type "object") = true := by
    rw [hmro, List.contains_cons, refs_contains, T.base.obj, Bool.or_true]
  obtain ⟨hp0, g, d, tk, os⟩ := s
  have hform : methodCallForm 1 (backTo p4 (starEach [.Constant (.str txt) j p3] (ksEnv qual scope hp0.objs.size fI (.ref cda) cc))) (backToKw p4 (keywordEach [] (ksEnv qual scope hp0.objs.size fI (.ref cda) cc))) = true := rfl
  have hint : interactive (ksEnv qual scope hp0.objs.size fI (.ref cda) cc) = false := by
    show (scope.kind == .module && _) = false
    rw [hk]
    rfl
  refine ks_wpAt_execs_cons (ks_wpAt_Expr_any (ks_wpAt_MethodCall (pl := L2.plainOf (.Call (.Name "super" p0) [] [] p1) (ksEnv qual scope hp0.objs.size fI (.ref cda) cc)) ?_
    (bind_congr fun ov => bind_congr fun _ => L2.mcall_line hform hline)) hint)
  refine ks_wpAt_super_base (env := ksEnv qual scope hp0.objs.size fI (.ref cda) cc) hks hkc (by decide) rfl (X1 _ _ hfI) rfl hp rfl (X1 _ _ hcda) rfl hvs hfile T.top ?_
  refine ks_loadName_global hk hks (loadGlobal_builtin (env := ksEnv qual scope hp0.objs.size fI (.ref cda) cc) (hG.keeps hk₁) hGs (hB.keeps hk₁) hBs ⟨rfl, ?_⟩)
  refine wpAny_loadName_free hk hkc rfl ⟨_, X1 _ _ hcc, rfl⟩ ?_
  rw [har]
  refine wpAny_loadName_local hk hkself hns hms ?_
  refine ks_wpAny_isType_cls hD1 rfl ⟨rfl, ?_⟩
  have hsub : W.Looks (model prog w) h₁ (isSubtype (.ref C) (.ref C)) true := W.looks_mroIn X1 (by
    unfold W.mroIn
    rw [hcd, Option.bind_some, hmro, if_neg (show ¬ (List.isEmpty (Value.ref C :: (rs.map Value.ref ++ bmB)) = true) from Bool.false_ne_true)]
    simp)
  refine ks_wpAny_call_super hD1 rfl hx1 rfl (fun c e => by cases e) hsub (fun h₂ e₂ k₂ => ?_)
  have X2 : K.In h₂ := X1.keeps k₂
  have hx2 := k₂ _ _ hx1
  have hI : W.Looks (model prog w) h₂ (isInstance (.ref x) (.type B)) true := (W.InstAt.type (x := x) (C := C) (ox := excO C t0) (od := none) ⟨hx2, rfl, rfl, trivial⟩).andThen (looks_subIn X2 T.subB)
  have hsup : alongIn K "__init__" ((cd.mro.dropWhile (· != .ref C)).drop 1) = some (some (.builtin initId)) := by
    have z := T.sup
    unfold ks_superIn at z
    rw [hcd] at z
    exact z
  refine kxs_getMethod T.base.KF e₂ (looks_opaque X2 T.opq) (l₀ := cd.mro) ((W.looks_clsIn X2 hcd).andThen .now) rfl X2 hsup hI hxC (by decide) ?_
  have k₃ : ∀ b o, h₂.get? b = some o → (h₂.push (kxs_mw initId x)).get? b = some o := fun b o e => Heap.get?_push_of_some _ e
  have hu : (h₂.push (kxs_mw initId x)).get? h₂.objs.size = some (kxs_mw initId x) := Heap.get?_push_at rfl rfl
  refine kxs_callWith (i := initId) (x := x) rfl ?_
  show wpAny _ _ (evalArgs (.ref h₂.objs.size) true (backTo p4 (starEach [.Constant (.str txt) j p3] (ksEnv qual scope hp0.objs.size fI (.ref cda) cc))) []) _ _ _
  refine evalArgs_plain (Calls.spliced_cons (wpAny_Constant_str (k := j) (pos := p3) (Calls.spliced_nil ⟨hu, ?_⟩)))
  refine call_mw (rest := [_]) T.base.FB ((X2.keeps k₃) _ _ hC) (k₃ _ _ hx2) hu (by rw [sizeLine_eq]; show 1 ≤ 16777216; decide) (fun h₄ t4 k₄ e₄ => ?_)
  have keep4 : ∀ b o, b ≠ x → hp0.get? b = some o → h₄.get? b = some o := fun b o hb e => k₄ b o hb (k₃ _ _ (k₂ _ _ (hk₁ _ _ e)))
  have hns4 : h₄.Ns hp0.objs.size (fun y => binds.reverse.lookup y) := hns.at fun o e => k₄ _ o hxL (k₃ _ _ (k₂ _ _ e))
  refine wpAt_of_wpAny (asgs (env := ksEnv qual scope hp0.objs.size fI (.ref cda) cc) (h0 := hp0) (x := x) (C := C) (m := fun y => binds.reverse.lookup y) (val := val) X hnx hxL hk hkself hms T.sa hcd hpass hobj hhd hasg
    (fun f hf => ⟨hkf f hf, hval f hf, T.ndb f hf, T.noF f hf⟩) (done := []) (by have := T.few; simp only [List.length_nil]; omega) keep4 (Nat.le_refl _) hns4 (.inl ⟨rfl, t4, e₄⟩) fun h₅ t5 k₅ e₅ => ?_)
  refine hq h₅ t5 k₅ ?_
  rw [List.append_nil] at e₅
  exact e₅
end
end EK
end PySem
end
section
set_option Elab.async false
set_option linter.all false
set_option maxRecDepth 100000
set_option maxHeartbeats 4000000
/-! EK4: the class called, as a rule of the layer: a new exception as a value -/
namespace PySem
namespace EK
open PySem.W PySem.Calls PyProof.Rows PySem.HandSPX
/-! ### lists of names and values -/
section
variable {α : Type}
theorem lookup_map_rev (val : Str → α) (fs : List Str) (y : Str) : ((fs.map fun f => (f, val f)).reverse).lookup y = if y ∈ fs then some (val y) else none := by
  have key : ∀ l : List Str, (l.map fun f => (f, val f)).lookup y = if y ∈ l then some (val y) else none := by
    intro l
    induction l with
    | nil => simp
    | cons f r ih =>
      by_cases e : y = f
      · subst e
        simp [List.lookup]
      · have q : (y == f) = false := by simpa using e
        simp [List.lookup, q, ih, e]
  rw [← List.map_reverse, key]
  simp
theorem zip_lookup_none {fs : List Str} {vs : List α} {y : Str} (h : y ∉ fs) : (fs.zip vs).lookup y = none := by
  induction fs generalizing vs with
  | nil => simp
  | cons f r ih =>
    cases vs with
    | nil => simp
    | cons v t =>
      have e : (y == f) = false := by
        simp only [beq_eq_false_iff_ne, ne_eq]
        exact fun z => h (by rw [z]; exact List.mem_cons_self ..)
      simp only [List.zip_cons_cons, List.lookup, e]
      exact ih fun z => h (List.mem_cons_of_mem _ z)
theorem zip_lookup_some {fs : List Str} {vs : List α} {y : Str} (hl : vs.length = fs.length) (h : y ∈ fs) : ∃ v, (fs.zip vs).lookup y = some v := by
  induction fs generalizing vs with
  | nil => cases h
  | cons f r ih =>
    cases vs with
    | nil => cases hl
    | cons v t =>
      by_cases e : y = f
      · subst e
        exact ⟨v, by simp [List.lookup]⟩
      · have q : (y == f) = false := by simpa using e
        obtain ⟨u, hu⟩ := ih (vs := t) (by simpa using hl) (by
          rcases List.mem_cons.mp h with z | z
          · exact absurd z e
          · exact z)
        exact ⟨u, by simp only [List.zip_cons_cons, List.lookup, q]; exact hu⟩
theorem lookup_none_of_not_mem {l : List (Str × α)} {y : Str} (h : y ∉ l.map (·.1)) : l.lookup y = none := by
  induction l with
  | nil => rfl
  | cons p r ih =>
    obtain ⟨f, v⟩ := p
    have e : (y == f) = false := by
      simp only [beq_eq_false_iff_ne, ne_eq]
      exact fun z => h (by rw [z]; exact List.mem_cons_self ..)
    simp only [List.lookup, e]
    exact ih fun z => h (List.mem_cons_of_mem _ z)
theorem lookup_append' (l r : List (Str × α)) (y : Str) : (l ++ r).lookup y = (l.lookup y).or (r.lookup y) := by
  induction l with
  | nil => simp
  | cons p t ih =>
    obtain ⟨f, v⟩ := p
    by_cases e : y = f
    · subst e
      simp [List.lookup]
    · have q : (y == f) = false := by simpa using e
      simp [List.lookup, q, ih]
theorem lookup_rev {l : List (Str × α)} (h : (l.map (·.1)).Nodup) (y : Str) : l.reverse.lookup y = l.lookup y := by
  induction l with
  | nil => rfl
  | cons p r ih =>
    obtain ⟨f, v⟩ := p
    simp only [List.map_cons, List.nodup_cons] at h
    rw [List.reverse_cons, lookup_append', ih h.2]
    by_cases e : y = f
    · subst e
      rw [lookup_none_of_not_mem h.1]
      simp [List.lookup]
    · have q : (y == f) = false := by simpa using e
      simp [List.lookup, q]
theorem zip_keys {fs : List Str} {vs : List α} (hl : vs.length = fs.length) : (fs.zip vs).map (·.1) = fs := by
  induction fs generalizing vs with
  | nil => simp
  | cons f r ih =>
    cases vs with
    | nil => cases hl
    | cons v t => simp [ih (vs := t) (by simpa using hl)]
end
/-- how a call binds the fields: n values by position, keywords ks; g: the values in the fields' order -/
structure EB (fd : FuncData) (fs : List Str) (n : Nat) (ks : List Str) (g : {α : Type} → List α → List α → List α) : Prop where
  to : ∀ (s : Shared) (self : Value) (us ws : List Value), us.length = n → ws.length = ks.length → BindsTo s fd ⟨self :: us, ks.zip ws⟩ (("self", self) :: fs.zip (g us ws))
  nd : fs.Nodup
  noSelf : ("self" : Str) ∉ fs
  rel : ∀ {vs zs : List L2.V} {us ws : List Value}, L2.Vals vs us → L2.Vals zs ws → L2.Vals (g vs zs) (g us ws)
section
variable {prog : Program} {w : World} {A : Around} {R : Result → Shared → Prop} {K : Frag} {C fI : Addr} {B newId initId : String} {bmB : List Value} {rs : List Addr} {fs : List Str} {fd : FuncData} {n : Nat} {ks : List Str} {g : {α : Type} → List α → List α → List α}
theorem err_made (T : ErrT prog K C fI B newId initId bmB rs fs fd) (eb : EB fd fs n ks g) {s : Shared} {us ws : List Value} {mg mb : Str → Option Value}
    (X : K.In s.heap) (hlim : s.heap.NoLimit) (hG : s.heap.Ns mainGlobals mg) (hGs : mg ("super" : Str) = none) (hB : s.heap.Ns builtinsNs mb) (hBs : mb ("super" : Str) = some (.type "super"))
    (hroom : A.depth + 1 < recursionLimit) (hus : us.length = n) (hws : ws.length = ks.length) (hlen : (g us ws).length = fs.length) (hsz : us.length ≤ sizeLine)
    (hq : ∀ h' tk, (∀ b o, s.heap.get? b = some o → h'.get? b = some o) → ExAt (s.heap.objs.size + 3) h' (s.heap.objs.size + 1) C (fs.map fun f => (f, ((fs.zip (g us ws)).lookup f).getD .none)).reverse →
      R (.ok (.ret (.ref (s.heap.objs.size + 1)))) { s with heap := h', toks := tk }) :
    codeAny (model prog w) A (.call (.ref C) ⟨us, ks.zip ws⟩) R s := by
  obtain ⟨nm, q, N, bs, sn, sub, ab, col, dd, k0, k1, k2, k3, k5, hC⟩ := T.cls
  obtain ⟨hp, gs, dr, tk, os⟩ := s
  have k : ∀ b o, hp.get? b = some o → ((hp.push (kdv_tup us)).push (excO C hp.objs.size)).get? b = some o := fun b o e => Heap.get?_push_of_some _ (Heap.get?_push_of_some _ e)
  have hget : ((hp.push (kdv_tup us)).push (excO C hp.objs.size)).get? (hp.objs.size + 1) = some (excO C hp.objs.size) := by heap_get
  have hsize : ((hp.push (kdv_tup us)).push (excO C hp.objs.size)).objs.size = hp.objs.size + 2 := by simp only [Heap.size_push]
  have hnx : K.lookup (hp.objs.size + 1) = none := by
    cases e : K.lookup (hp.objs.size + 1) with
    | none => rfl
    | some o =>
      have z : hp.get? (hp.objs.size + 1) = some o := X _ _ e
      exact absurd (Nat.lt_of_succ_lt (Heap.lt_size z)) (Nat.lt_irrefl _)
  have hkeys : ((("self" : Str), Value.ref (hp.objs.size + 1)) :: fs.zip (g us ws)).map (·.1) = ("self" : Str) :: fs := by rw [List.map_cons, zip_keys hlen]
  have hnd : (((("self" : Str), Value.ref (hp.objs.size + 1)) :: fs.zip (g us ws)).map (·.1)).Nodup := by
    rw [hkeys]
    exact List.nodup_cons.mpr ⟨eb.noSelf, eb.nd⟩
  have hscope : fd.scope.names.lookup ("self" : Str) = some .local ∧ ∀ f ∈ fs, fd.scope.names.lookup f = some .local := by
    obtain ⟨oc, od, osl, qual, params, body, scope, dV, kV, doc, pm, an, cda, ct, cc, rfl, _, _, _, _, _, _, _, _, h3, h4, _⟩ := T.fn
    exact ⟨h3, h4⟩
  refine call_ownK T.base.FB (refs_contains rs bmB) (X _ _ hC) (looks_findIn X T.iC) (fun self => bind_fn X self T.tC) hsz ?_
  refine err_init T (s := ⟨(hp.push (kdv_tup us)).push (excO C hp.objs.size), gs, dr, tk, os⟩) (x := hp.objs.size + 1) (binds := ("self", .ref (hp.objs.size + 1)) :: fs.zip (g us ws)) (val := fun f => ((fs.zip (g us ws)).lookup f).getD .none)
    (X.keeps k) (hlim.keeps k) (hG.keeps k) hGs (hB.keeps k) hBs hget hnx (by show A.depth + 1 < recursionLimit; exact hroom) (eb.to _ _ us ws hus hws) (fun y hy => ?_) ?_ (fun f hf => ?_) fun h' tk' keep ex => ?_
  · rcases List.mem_cons.mp hy with rfl | hy
    · exact hscope.1
    · refine hscope.2 y.1 ?_
      have z : y.1 ∈ (fs.zip (g us ws)).map (·.1) := List.mem_map_of_mem hy
      rw [zip_keys hlen] at z
      exact z
  · rw [lookup_rev hnd]
    simp [List.lookup]
  · rw [lookup_rev hnd]
    have e : (f == ("self" : Str)) = false := by
      simp only [beq_eq_false_iff_ne, ne_eq]
      exact fun z => eb.noSelf (by rw [← z]; exact hf)
    obtain ⟨v, hv⟩ := zip_lookup_some (vs := g us ws) hlen hf
    simp only [List.lookup, e, hv]
    rfl
  · refine ⟨rfl, hq h' tk' (fun b o e => keep b o (Nat.ne_of_lt (Nat.lt_succ_of_lt (Heap.lt_size e))) (k b o e)) ?_⟩
    rw [hsize] at ex
    exact ex
end
end EK
end PySem
end
section
set_option Elab.async false
set_option linter.all false
set_option maxRecDepth 100000
set_option maxHeartbeats 4000000
/-! EK5: rules of the layer: an error made as a value; its fields read -/
namespace L2
open PySem PySem.Spec PyProof.Rows PySem.EK
/-- the heap behind C(..): the error at e, its dict at d (none without fields) -/
def errH (H : Hp) (e C d : Addr) (fs : List Str) (vs : List V) : Hp := match fs with
  | [] => upd H e (exo e C none)
  | f :: r => upd (upd H d (exd d ((f :: r).zip vs))) e (exo e C (some d))
def tErr (C : Addr) (fs : List Str) (n m : Nat) (g : {α : Type} → List α → List α → List α) (ta tk : TA) : TE := fun σ H Q => ta σ H fun vs H1 => tk σ H1 fun zs H2 =>
  vs.length = n ∧ zs.length = m ∧ (g vs zs).length = fs.length ∧ ∀ e d, H2 e = none → H2 d = none → d ≠ e → Q (.ref e) (errH H2 e C d fs (g vs zs))
theorem zip_rel {fs : List Str} {vs : List V} {us : List Value} (r : Vals vs us) (hl : vs.length = fs.length) (y : Str) : RelO ((fs.zip vs).lookup y) ((fs.zip us).lookup y) := by
  induction fs generalizing vs us with
  | nil => simp [RelO]
  | cons f t ih =>
    cases r with
    | nil => cases hl
    | @cons v u vs us rv r =>
      by_cases e : y = f
      · subst e
        simpa [List.lookup, RelO] using rv
      · have q : (y == f) = false := by simpa using e
        simp only [List.zip_cons_cons, List.lookup, q]
        exact ih r (by simpa using hl)
theorem done_lookup {fs : List Str} {us : List Value} (hl : us.length = fs.length) (y : Str) : ((fs.map fun f => (f, ((fs.zip us).lookup f).getD .none)).reverse).lookup y = (fs.zip us).lookup y := by
  rw [lookup_map_rev (fun f => ((fs.zip us).lookup f).getD .none)]
  by_cases h : y ∈ fs
  · obtain ⟨v, hv⟩ := zip_lookup_some (vs := us) hl h
    rw [if_pos h, hv]
    rfl
  · rw [if_neg h, zip_lookup_none h]
section
variable {X : Cx} {pins : List (Addr × Obj)} {σ : St} {H : Hp} {s : Shared} {C fI : Addr} {B newId initId : String} {bmB : List Value} {rs : List Addr} {fs : List Str} {fd : FuncData} {n k : Nat} {ks : List Str} {g : {α : Type} → List α → List α → List α}
theorem run_err {Q : VK} {us ws : List Value} {vs zs : List V} (T : ErrT X.prog X.K C fI B newId initId bmB rs fs fd) (eb : EB fd fs n ks g) (hr : Room k X.A) (hS : X.mg ("super" : Str) = none) (I : Inv X pins σ H s) (r : Vals vs us) (rz : Vals zs ws)
    (h : vs.length = n ∧ zs.length = ks.length ∧ (g vs zs).length = fs.length ∧ ∀ e d, H e = none → H d = none → d ≠ e → Q (.ref e) (errH H e C d fs (g vs zs))) (hn : n ≤ 100) :
    wpAny (model X.prog X.w) X.A (call (.ref C) us (ks.zip ws)) (EP X pins σ Q) X.xe s := by
  obtain ⟨h1, h2, h3, hQ⟩ := h
  obtain ⟨mb, hb1, hb2⟩ := I.mod.blt
  have rg := eb.rel r rz
  have hlen : (g us ws).length = fs.length := by rw [← rg.length]; exact h3
  refine wpAny_call (err_made T eb (R := _) I.kIn I.nolimit (I.mod.glob.keeps I.bk) hS (hb1.keeps I.bk) ((hb2 _ (by decide +kernel)).trans (by first | boot_by_name | rfl | kernel_rfl)) (by have := hr.dp; omega) (r.length.symm.trans h1) (rz.length.symm.trans h2) hlen (by rw [← r.length, h1, sizeLine_eq]; omega) fun h' tk keep ex => ?_)
  have sz1 : s.heap.objs.size ≤ s.heap.objs.size + 1 := Nat.le_succ _
  have fr : ∀ a, s.heap.objs.size ≤ a → H a = none := fun a z => I.hok.fresh z
  cases fs with
  | nil =>
    rcases ex with ⟨_, t, e⟩ | ⟨z, _⟩
    · exact ⟨.ref (s.heap.objs.size + 1), upd H (s.heap.objs.size + 1) (exo (s.heap.objs.size + 1) C none), I.laid keep sz1 (exo_ok e), rfl, hQ _ s.heap.objs.size (fr _ sz1) (fr _ (Nat.le_refl _)) (Nat.ne_of_lt (Nat.lt_succ_self _))⟩
    · exact absurd rfl z
  | cons f t =>
    rcases ex with ⟨z, _⟩ | ⟨_, dx, t1, hn, hne, e, hns⟩
    · simp at z
    · have szd : s.heap.objs.size ≤ dx := Nat.le_trans (Nat.le_add_right _ 3) hn
      have hd : ObjOk X.prog X.w (upd H dx (exd dx ((f :: t).zip (g vs zs)))) h' dx (exd dx ((f :: t).zip (g vs zs))) := exd_ok hns fun y => by
        rw [done_lookup hlen]
        exact zip_rel rg h3 y
      have I1 := I.laid (t' := tk) keep szd hd
      have hx : H (s.heap.objs.size + 1) = none := fr _ sz1
      have U : Un X.fs [] H (upd (upd H dx (exd dx ((f :: t).zip (g vs zs)))) (s.heap.objs.size + 1) (exo (s.heap.objs.size + 1) C (some dx))) s.heap h' := {
        keep := fun b o q _ _ _ => keep b o q
        slot := fun b o q _ _ _ => ⟨o.slots, keep b o q⟩
        free := fun b o q n _ => by
          rw [upd_ne (Nat.ne_of_lt (Nat.lt_of_lt_of_le (Heap.lt_size q) sz1)), upd_ne (Nat.ne_of_lt (Nat.lt_of_lt_of_le (Heap.lt_size q) szd))]
          exact n
        there := fun b o q _ => ⟨o, keep b o q⟩
        tups := fun b xs q => by
          rw [upd_ne (ne_of_none q hx), upd_ne (ne_of_none q (fr _ szd))]
          exact q
        frzs := fun b o v q => by
          rw [upd_ne (ne_of_none q hx), upd_ne (ne_of_none q (fr _ szd))]
          exact q
        tbls := fun b ps q => ⟨#[], by
          rw [upd_ne (ne_of_none q hx), upd_ne (ne_of_none q (fr _ szd)), q]
          simp⟩ }
      refine ⟨.ref (s.heap.objs.size + 1), _, I.un (t' := tk) U fun b o q => ?_, rfl, hQ _ dx hx (fr _ szd) hne⟩
      by_cases hb : b = s.heap.objs.size + 1
      · subst hb
        rw [upd_same] at q
        cases q
        exact exo_ok e
      · rw [upd_ne hb] at q
        have z := I1.hok b o q
        have hx1 : upd H dx (exd dx ((f :: t).zip (g vs zs))) (s.heap.objs.size + 1) = none := by
          rw [upd_ne (Ne.symm hne)]
          exact hx
        exact z.stay (fun c v _ y => y) (fun c y => by rw [upd_ne (ne_of_none y hx1)]; exact y) fun c xs y => by rw [upd_ne (ne_of_none y hx1)]; exact y
variable {x : Str} {p pos : Pos} {e : Expr} {es : List Expr} {kws : List Keyword} {ta tk : TA}
/-- C(e, ..) -/
theorem pe_err (T : ErrT X.prog X.K C fI B newId initId bmB rs fs fd) (eb : EB fd fs n [] g) (hn : n ≤ 100) (hr : Room k X.A) (hS : X.mg ("super" : Str) = none) (hg : Gl X x) (hm : X.mg x = some (.ref C)) (ha : PA X (e :: es) ta)
    (hdb : (x == ("__debug__" : Str)) = false := by decide) (he : starEach (e :: es) X.env = (false, eval e X.env) :: starEach es X.env := by rfl) (hpl : (backTo pos (starEach es X.env)).any (·.1) = false := by rfl) :
    PE X (.Call (.Name x p) (e :: es) [] pos) (tErr C fs n 0 g ta tNil) := by
  refine ⟨fun pins s σ H Q I h => ?_⟩
  refine wpAny_Call_Name_kw (ld_glob I hg hm ?_ hdb)
  refine PySem.W.callWith_K (h₀ := X.base) I.ok.mod.kin T.kC (thn (ha.run pos pins s σ H _ I h) fun us s1 ⟨vs, H1, I1, r, q⟩ => ⟨I1.kIn, ?_⟩) he hpl
  exact run_err (us := us) (ws := []) (zs := []) T eb hr hS I1 r .nil q hn
/-- C() -/
theorem pe_err0 (T : ErrT X.prog X.K C fI B newId initId bmB rs fs fd) (eb : EB fd fs 0 [] g) (hr : Room k X.A) (hS : X.mg ("super" : Str) = none) (hg : Gl X x) (hm : X.mg x = some (.ref C)) (hdb : (x == ("__debug__" : Str)) = false := by decide) :
    PE X (.Call (.Name x p) [] [] pos) (tErr C fs 0 0 g tNil tNil) := by
  refine ⟨fun pins s σ H Q I h => ?_⟩
  refine wpAny_Call_Name_kw (ld_glob I hg hm ?_ hdb)
  exact PySem.W.callWith_K0 I.kIn T.kC (run_err (us := []) (ws := []) (vs := []) (zs := []) T eb hr hS I .nil .nil h (Nat.zero_le _))
/-- C(f = e, ..) -/
theorem pe_errK (T : ErrT X.prog X.K C fI B newId initId bmB rs fs fd) (eb : EB fd fs 0 ks g) (hr : Room k X.A) (hS : X.mg ("super" : Str) = none) (hg : Gl X x) (hm : X.mg x = some (.ref C)) (hkw : PK X kws tk)
    (hall : (backToKw pos (keywordEach kws X.env)).all (·.1.isSome) = true := by rfl) (hks : (backToKw pos (keywordEach kws X.env)).filterMap (·.1) = ks := by rfl)
    (hdb : (x == ("__debug__" : Str)) = false := by decide) (hpl : ((backTo pos (starEach [] X.env)).any (·.1) || (backToKw pos (keywordEach kws X.env)).any (·.1.isNone)) = false := by rfl) :
    PE X (.Call (.Name x p) [] kws pos) (tErr C fs 0 ks.length g tNil tk) := by
  refine ⟨fun pins s σ H Q I h => ?_⟩
  refine wpAny_Call_Name_kw (ld_glob I hg hm ?_ hdb)
  refine PySem.W.callWith_KW0 (h₀ := X.base) I.ok.mod.kin T.kC hall (thn (hkw.run pos pins s σ H _ I h) fun ws s1 ⟨zs, H1, I1, r, q⟩ => ⟨I1.kIn, ?_⟩) hpl
  rw [hks]
  exact run_err (us := []) (vs := []) T eb hr hS I1 .nil r q (Nat.zero_le _)
end
end L2
end
section
set_option Elab.async false
set_option linter.all false
set_option maxRecDepth 100000
set_option maxHeartbeats 4000000
/-! EK6: an error that stands in the heap: its fields read, isinstance -/
namespace L2
open PySem PySem.Spec PyProof.Rows PySem.EK
/-- at a stands an error of the class at C with the fields fs -/
def ErrAt (H : Hp) (a C : Addr) (fs : List (Str × V)) : Prop := (fs = [] ∧ H a = some (exo a C none)) ∨ ∃ d, H a = some (exo a C (some d)) ∧ H d = some (exd d fs)
theorem ErrAt.same {H H' : Hp} {a C : Addr} {fs : List (Str × V)} (k : Same H H') (h : ErrAt H a C fs) : ErrAt H' a C fs := by
  rcases h with ⟨e, h⟩ | ⟨d, h, h'⟩
  · exact .inl ⟨e, k _ _ h⟩
  · exact .inr ⟨d, k _ _ h, k _ _ h'⟩
theorem errAt_new {H : Hp} {e C d : Addr} {fs : List Str} {vs : List V} (hne : d ≠ e) : ErrAt (errH H e C d fs vs) e C (fs.zip vs) := by
  cases fs with
  | nil => exact .inl ⟨rfl, upd_same⟩
  | cons f r => exact .inr ⟨d, upd_same, by show upd _ e _ d = _; rw [upd_ne hne, upd_same]⟩
theorem same_errH {H : Hp} {e C d : Addr} {fs : List Str} {vs : List V} (he : H e = none) (hd : H d = none) : Same H (errH H e C d fs vs) := by
  intro b o q
  cases fs with
  | nil => show upd _ _ _ _ = _; rw [upd_ne (ne_of_none q he)]; exact q
  | cons f r => show upd _ _ _ _ = _; rw [upd_ne (ne_of_none q he), upd_ne (ne_of_none q hd)]; exact q
theorem ErrAt.inst {P : Program} {w : World} {H : Hp} {h : Heap} {a C : Addr} {fs : List (Str × V)} (x : ErrAt H a C fs) (hok : HOk P w H h) :
    ∃ oe od, PySem.W.InstAt h a oe C od ∧ ∀ f v, fs.lookup f = some v → ∃ o u, od = some o ∧ PySem.W.lookIn f o = some (some u) ∧ RelV v u := by
  rcases x with ⟨rfl, e⟩ | ⟨d, e, e'⟩
  · obtain ⟨t1, ho⟩ := exo_at hok e
    exact ⟨_, none, ⟨ho, rfl, rfl, trivial⟩, fun f v z => by cases z⟩
  · obtain ⟨t1, ho⟩ := exo_at hok e
    obtain ⟨mA, hns, rel⟩ := exd_at hok e'
    obtain ⟨od, hod, hl⟩ := lookIn_ns hns
    refine ⟨_, some od, ⟨ho, rfl, rfl, hod⟩, fun f v z => ?_⟩
    obtain ⟨u, hu, ru⟩ := RelO.some_of (v := v) (o := mA f) (by rw [← z]; exact rel f)
    exact ⟨od, u, rfl, by rw [hl, hu], ru⟩
/-- e.f of such an error -/
structure ErrA (K : PySem.W.Frag) (C : Addr) (f : Str) : Prop where
  ga : PySem.W.findIn K (.ref C) "__getattribute__" = some (some (.builtin "BaseException.__getattribute__"))
  gg : PySem.W.findIn K (.ref C) "__getattr__" = some none
  ex : PySem.W.subIn K (.ref C) (.type "BaseException") = some true
  hd : PySem.W.hasDictIn K C = true
  no : PySem.W.findIn K (.ref C) f = some none
def tEA (K : PySem.W.Frag) (f : Str) (te : TE) : TE := fun σ H Q => te σ H fun x H1 => ∃ (a C : Addr) (fs : List (Str × V)) (v : V), x = .ref a ∧ ErrAt H1 a C fs ∧ ErrA K C f ∧ fs.lookup f = some v ∧ Q v H1
section
variable {X : Cx}
theorem pe_ea {e : Expr} {te : TE} {f : Str} {pos : Pos} (he : PE X e te) (hb : attributeBase e f X.env (eval e X.env) = eval e X.env := by rfl) : PE X (.Attribute e f pos) (tEA X.K f te) := by
  refine ⟨fun pins s σ H Q I h => ?_⟩
  refine attr_of hb (thn (he.run pins s σ H _ I h) fun u s1 hh => ?_)
  obtain ⟨x, H1, I1, rx, a, C, fs, v, ex, at_, A, hl, q⟩ := hh
  subst ex
  obtain rfl : u = Value.ref a := rx
  obtain ⟨oe, od, J, hf⟩ := at_.inst I1.hok
  obtain ⟨o, u, rfl, hu, ru⟩ := hf f v hl
  exact HandSPX.exc_get I1.kIn J A.ga A.gg A.ex (PySem.W.findObj_own A.hd A.no rfl hu) (handed_of ru) ⟨v, H1, I1.tok _, ru, q⟩
/-- isinstance(e, c) of such an error -/
def rIsX (K : PySem.W.Frag) : List V → Hp → VK → Prop := fun xs H Q => ∃ (a C : Addr) (fs : List (Str × V)) (c : V) (cv : Value) (b : Bool), xs = [.ref a, c] ∧ ErrAt H a C fs ∧ ExcC K C ∧ ClsV c cv ∧ PySem.W.kitOne K (.ref C) cv = some b ∧ Q (.bl b) H
theorem kitx_errAt {K : PySem.W.Frag} {a D : Addr} {oe : Obj} {od : Option Obj} (C : ExcC K D) : PySem.W.KitX K (.ref a) (.ref D) (fun h => PySem.W.InstAt h a oe D od) where
  ty := fun _ _ _ I => I.type
  it := fun _ _ X _ => by
    obtain ⟨cdD, hcD, _⟩ := PySem.W.any_some C.hd
    unfold PySem.W.clsIn at hcD
    split at hcD
    · rename_i c' d' cd' sl' ho
      intro A' Q' E' s' k q
      unfold isType loadHead
      exact wpAny_bind (wpAny_loadPart (k _ _ (X _ _ ho)) (wpAny_pure q))
    · cases hcD
  ne := fun h tp dd its n sl X htp => by
    obtain ⟨cdD, hcD, _⟩ := PySem.W.any_some C.hd
    refine Bool.eq_false_iff.mpr fun q => ?_
    have e : D = tp := Value.ref.inj (beq_iff_eq.mp q)
    subst e
    unfold PySem.W.clsIn at hcD
    split at hcD
    · rename_i c' d' cd' sl' ho
      have z := (X _ _ ho).symm.trans htp
      cases z
    · cases hcD
  ca := fun X I k => PySem.W.kx_classE X I C.hg C.hk C.hs (PySem.W.findObj_dataE (by obtain ⟨cd, hc, _⟩ := PySem.W.any_some C.hd; rw [hc]; rfl) C.ha C.hn C.ht) C.hm k
theorem call_isX : CallR X (.builtin "isinstance") (rIsX X.K) := by
  intro pins s σ H xs us Q I r h
  obtain ⟨a, C, fs, c, cv, b, rfl, at_, E, k, e, q⟩ := h
  obtain ⟨u1, u2, rfl, r1, r2⟩ := vals2 r
  have e2 := k.eq r2
  subst e2
  cases (show u1 = Value.ref a from r1)
  obtain ⟨oe, od, J, _⟩ := at_.inst I.hok
  exact PySem.W.kia_one (kitx_errAt E) I.kIn J e (fun z => nomatch z) fun tk => ⟨.bl b, H, I.tok tk, rfl, q⟩
end
end L2
end
section
set_option Elab.async false
set_option linter.all false
set_option maxRecDepth 100000
set_option maxHeartbeats 4000000
/-! EK7: defs that are called where nothing is being shown (repr asks it); repr of data -/
namespace L2
open PySem PySem.Spec PyProof.Rows PySem.EK
/-- as FnOk, where no repr runs around -/
structure FnG (P : Program) (w : World) (K : PySem.W.Frag) (mg : Str → Option Value) (base : Heap) (CX : CXT) (k : Nat) (f : Addr) (fd : FuncData) (ps : List Str) (sp : Sp) : Prop where
  len : ∀ vs H Q E, sp vs H Q E → vs.length = ps.length
  run : ∀ (A : Around) (outer : List Env) (s : Shared) (H : Hp) (args : Args) (us : List Value) (vs : List V) (Q : VK) (E : XK), A.guards = some [] → Room k A → Env0 P w K mg base A outer s H → BindsTo s fd args (ps.zip us) → Vals vs us → sp vs H Q E →
    codeAny (model P w) A (.call (.ref f) args) (CR CX outer P w H s Q E) s
theorem FnOk.g {P : Program} {w : World} {K : PySem.W.Frag} {mg : Str → Option Value} {base : Heap} {CX : CXT} {k : Nat} {f : Addr} {fd : FuncData} {ps : List Str} {sp : Sp} (F : FnOk P w K mg base CX k f fd ps sp) : FnG P w K mg base CX k f fd ps sp :=
  ⟨F.len, fun A outer s H args us vs Q E _ => F.run A outer s H args us vs Q E⟩
theorem FnG.mono {P : Program} {w : World} {K : PySem.W.Frag} {mg : Str → Option Value} {base : Heap} {CX : CXT} {j k : Nat} {f : Addr} {fd : FuncData} {ps : List Str} {sp : Sp} (F : FnG P w K mg base CX j f fd ps sp) (h : j ≤ k) : FnG P w K mg base CX k f fd ps sp :=
  ⟨F.len, fun A outer s H args us vs Q E hg hr => F.run A outer s H args us vs Q E hg (hr.mono h)⟩
theorem fnG_of {CX : CXT} {P : Program} {w : World} {K : PySem.W.Frag} {mg : Str → Option Value} {base : Heap} {k : Nat} {f : Addr} {name qual : Str} {params : Arguments} {body : List Stmt} {scope : Scope} {dV kV doc pm cdv ct oc : Value} {an od : Option Addr}
    {osl : Array (Option Value)} {N ps : List Str} {sp : Sp} (lk : K.lookup f = some ⟨oc, od, .func (PySem.W.fnOf name qual params body scope dV kV doc pm an cdv ct), osl⟩) (hcd : PySem.W.codeIn K cdv qual = true) (S : FnScope N ps scope)
    (len : ∀ vs H Q E, sp vs H Q E → vs.length = ps.length)
    (hbody : ∀ (A : Around) (outer : List Env) (s : Shared) (H : Hp) (vs : List V) (Q : VK) (E : XK), A.guards = some [] → Room k (A.deeper (envOfC qual scope s.heap.objs.size f cdv)) → sp vs H Q E →
      ∃ t, PSs (cxOf CX P w K mg base N qual scope f cdv A outer s H E) body t ∧ t { nx := fun _ H' => Q .non H', rt := Q } (start N vs) H) :
    FnG P w K mg base CX (k + 1) f (PySem.W.fnOf name qual params body scope dV kV doc pm an cdv ct) ps sp := by
  refine ⟨len, fun A outer s H args us vs Q E hgd hr e0 hb r hsp => ?_⟩
  have hl := len _ _ _ _ hsp
  have KX : K.In s.heap := e0.mod.kin.keeps fun b o e => (e0.bs b o e).1
  have lim : s.heap.NoLimit := e0.mod.nolimit.keeps fun b o e => (e0.bs b o e).1
  have hkind : ∀ y ∈ ps.zip us, scope.names.lookup y.1 = some .local ∨ (scope.names.lookup y.1 = some .cell ∧ ((cellsFrom (s.heap.objs.size + 1) scope.names []).lookup y.1).isSome = true) := fun ⟨n, v⟩ hy => by
    rcases S.par n (List.of_mem_zip hy).1 with q | q
    · exact .inl q
    · exact .inr ⟨q, PySem.W.cellsFrom_some _ _ _ (.inl q)⟩
  refine codeAny_call_function hr.depth (KX _ _ lk) rfl S.co S.gen rfl (PySem.W.codeRec_of KX hcd) (hb _ _ _ _ ?_)
  refine wpAny_newFunctionEnv_cells S.kind hkind fun env he s1 x => ?_
  subst he
  refine ⟨lim.keeps x.toInCall.keep, codeAny_func ?_⟩
  obtain ⟨t, ht, hq⟩ := hbody A outer s H vs Q E hgd (hr.deeper _) hsp
  have I : Inv (cxOf CX P w K mg base N qual scope f cdv A outer s H E) [] (start N vs) H s1 := inv_start S hr.hd e0 hl r x
  refine wpAny_mono (ht.run [] s1 (start N vs) H _ I hq) (fun fl s' hs => ?_) fun e s' hs => hs
  have fin : ∀ {σ' : St} {H' : Hp} {v : V} {u : Value}, Inv (cxOf CX P w K mg base N qual scope f cdv A outer s H E) [] σ' H' s' → RelV v u → Q v H' → CE outer P w H s Q u s' :=
    fun {σ' H' v u} J rv q => ⟨v, H', J.os, J.bare, J.base, J.hok, rv, q⟩
  cases fl with
  | ret u =>
    obtain ⟨v, σ', H', J, rv, q⟩ := hs
    exact fin J rv q
  | next =>
    obtain ⟨σ', H', J, q⟩ := hs
    exact fin (v := V.non) (u := Value.none) J rfl q
  | brk =>
    obtain ⟨_, _, _, q⟩ := hs
    exact False.elim q
  | cont =>
    obtain ⟨_, _, _, q⟩ := hs
    exact False.elim q
section
variable {X : Cx} {CX : CXT} {k : Nat} {f : Addr} {fd : FuncData} {ps : List Str} {sp : Sp} {E : XK} {x : Str} {p pos : Pos} {e : Expr} {es : List Expr} {t : TA} {ds : List Value} {dvs : List V}
theorem run_fnG {pins : List (Addr × Obj)} {σ : St} {H : Hp} {s : Shared} {Q : VK} {us : List Value} {vs : List V} (F : FnG X.prog X.w X.K X.mg X.base CX k f fd ps sp) (hgd : X.A.guards = some []) (hr : Room k X.A) (hb : Binds X.K fd ps ds) (hd : Vals dvs ds) (hx : Passes CX X E)
    (I : Inv X pins σ H s) (r : Vals vs us) (h : sp (vs ++ dvs) H Q E) : wpAny (model X.prog X.w) X.A (call (.ref f) us) (EP X pins σ Q) X.xe s := by
  have r2 : Vals (vs ++ dvs) (us ++ ds) := r.append hd
  have hl : (us ++ ds).length = ps.length := by rw [← r2.length]; exact F.len _ _ _ _ h
  refine wpAny_call (codeAny_mono (F.run X.A X.stack s H ⟨us, []⟩ (us ++ ds) (vs ++ dvs) Q E hgd hr I.env0 (hb s us I.kIn hl) r2 h) fun r s' hq => ?_)
  cases r with
  | error e => exact hx pins σ H s e s' I hq
  | ok fl =>
    cases fl with
    | ret u => exact I.after hq
    | next => exact False.elim hq
    | brk => exact False.elim hq
    | cont => exact False.elim hq
/-- f(e, ..), f a def of that sort -/
theorem pe_callG (F : FnG X.prog X.w X.K X.mg X.base CX k f fd ps sp) (hgd : X.A.guards = some []) (hr : Room k X.A) (hg : Gl X x) (hm : X.mg x = some (.ref f)) (hk : PySem.W.keepIn X.K (.ref f) = true) (hb : Binds X.K fd ps ds) (hd : Vals dvs ds) (hx : Passes CX X E)
    (ha : PA X (e :: es) t) (hdb : (x == ("__debug__" : Str)) = false := by decide) (he : starEach (e :: es) X.env = (false, eval e X.env) :: starEach es X.env := by rfl) (hpl : (backTo pos (starEach es X.env)).any (·.1) = false := by rfl) :
    PE X (.Call (.Name x p) (e :: es) [] pos) (tCall sp dvs E t) := by
  refine ⟨fun pins s σ H Q I h => ?_⟩
  refine wpAny_Call_Name_kw (ld_glob I hg hm ?_ hdb)
  refine PySem.W.callWith_K (h₀ := X.base) I.ok.mod.kin hk (thn (ha.run pos pins s σ H _ I h) fun us s1 ⟨vs, H1, I1, r, q⟩ => ⟨I1.kIn, ?_⟩) he hpl
  exact run_fnG F hgd hr hb hd hx I1 r q
end
/-! ### data with dicts -/
def keyD : Key → PyData
  | .inl i => .int i
  | .inr x => .str x
mutual
inductive DpD (K : PySem.W.Frag) (H : Hp) : V → PyData → Prop
  | non : DpD K H .non .none
  | bl (b : Bool) : DpD K H (.bl b) (.bool b)
  | int (i : Int) : DpD K H (.int i) (.int i)
  | str (x : Str) : DpD K H (.str x) (.str x)
  | lst {a : Addr} {xs : List V} {ds : List PyData} : SqL K H a xs → DpDAll K H xs ds → DpD K H (.ref a) (.list ds)
  | tup {a : Addr} {xs : List V} {ds : List PyData} : SqT K H a xs → DpDAll K H xs ds → DpD K H (.ref a) (.tuple ds)
  | dct {a : Addr} {kvs : List (Key × V)} {ds : List (PyData × PyData)} : Rd H a (.dK kvs) → ds.map (·.1) = kvs.map (fun kv => keyD kv.1) → DpDAll K H (kvs.map (·.2)) (ds.map (·.2)) → DpD K H (.ref a) (.dict ds)
inductive DpDAll (K : PySem.W.Frag) (H : Hp) : List V → List PyData → Prop
  | nil : DpDAll K H [] []
  | cons {v : V} {vs : List V} {d : PyData} {ds : List PyData} : DpD K H v d → DpDAll K H vs ds → DpDAll K H (v :: vs) (d :: ds)
end
section
variable {X : Cx} {pins : List (Addr × Obj)} {σ : St} {H : Hp} {s : Shared}
theorem keys_reads {h : Heap} {P : Program} {w : World} : ∀ {kvs : List (Key × V)} {vs : List (Key × Value)} {es : List DictEntry}, KV kvs vs → Pairs (mixKind P w) es vs →
    ReadsAll h (es.map (·.key)) (kvs.map fun kv => keyD kv.1) [] ∧ Vals (kvs.map (·.2)) (es.map (·.val))
  | _, _, _, .nil, .nil => ⟨.nil, .nil⟩
  | _, _, _, .cons (a := p) (b := q) ⟨e1, r⟩ t, .cons (e := e) h1 h2 t2 => by
    obtain ⟨i1, i2⟩ := keys_reads (h := h) (P := P) (w := w) t t2
    refine ⟨?_, .cons (by show RelV p.2 e.val; rw [h2]; exact r) i2⟩
    have h1' : keyIs q.1 e.key = true := h1
    have hr : Reads h e.key (keyD p.1) [] := by
      rw [e1]
      rcases keyIs_shape h1' with ⟨i, tk, e2, e3⟩ | ⟨x, tk, e2, e3⟩
      · rw [e2, e3]
        exact .int i tk
      · rw [e2, e3]
        exact .str x tk
    exact .cons (as := []) (bs := []) hr i1
/-- what stands at sys.modules' place is no list -/
def NoSys (K : PySem.W.Frag) : Prop := (K.lookup sysModules).map (·.cls) = some (.type "dict")
theorem NoSys.ne {K : PySem.W.Frag} {h : Heap} {a : Addr} {o : Obj} (n : NoSys K) (X : K.In h) (e : h.get? a = some o) (c : o.cls = .type "list") : a ≠ sysModules := fun z => by
  unfold NoSys at n
  cases q : K.lookup sysModules with
  | none =>
    rw [q] at n
    cases n
  | some u =>
    rw [q] at n
    have n' : u.cls = .type "dict" := Option.some.inj n
    have e2 := X _ _ q
    rw [← z, e] at e2
    cases e2
    rw [c] at n'
    exact absurd n' (by decide)
mutual
theorem DpD.reads (I : Inv X pins σ H s) (ns : NoSys X.K) : ∀ {v : V} {d : PyData} {u : Value}, DpD X.K H v d → RelV v u → ∃ as, Reads s.heap u d as ∧ sysModules ∉ as
  | _, _, _, .non, r => by
    cases r
    exact ⟨_, Reads.none, fun z => nomatch z⟩
  | _, _, _, .bl b, r => by
    cases r
    exact ⟨_, Reads.bool b, fun z => nomatch z⟩
  | _, _, _, .int i, r => by
    obtain ⟨t, rfl⟩ := r
    exact ⟨_, Reads.int i t, fun z => nomatch z⟩
  | _, _, _, .str x, r => by
    obtain ⟨t, rfl⟩ := r
    exact ⟨_, Reads.str x t, fun z => nomatch z⟩
  | _, _, _, .lst hs ha, r => by
    cases r
    obtain ⟨its, rv, ⟨o, n, ho, hc, _, hd⟩, _⟩ := I.list hs
    obtain ⟨as, hr, na⟩ := DpDAll.reads I ns ha rv
    refine ⟨_, Reads.list ho hc hd hr, fun z => ?_⟩
    rcases List.mem_cons.mp z with z | z
    · exact ns.ne I.kIn ho hc z.symm
    · exact na z
  | _, _, _, .tup hs ha, r => by
    cases r
    obtain ⟨its, rv, ⟨o, ho, hc, n, hd⟩, _⟩ := I.tuple hs
    obtain ⟨as, hr, na⟩ := DpDAll.reads I ns ha rv
    exact ⟨_, Reads.tuple ho hc hd hr, na⟩
  | _, _, _, .dct (a := a) hd hk ha, r => by
    cases r
    obtain ⟨_, hsys, vs, rel, o, es, ep, ho, hex, hdat, _, hp, _⟩ := dk_rd I.hok hd
    obtain ⟨h1, h2⟩ := keys_reads (h := s.heap) rel hp
    obtain ⟨as, hr, na⟩ := DpDAll.reads I ns ha h2
    rw [← hk] at h1
    refine ⟨_, Reads.dict ho hex.1 hdat h1 hr, fun z => ?_⟩
    rcases List.mem_append.mp z with z | z
    · rcases List.mem_cons.mp z with z | z
      · rw [← z] at hsys
        exact absurd hsys (by decide)
      · exact nomatch z
    · exact na z
theorem DpDAll.reads (I : Inv X pins σ H s) (ns : NoSys X.K) : ∀ {vs : List V} {ds : List PyData} {us : List Value}, DpDAll X.K H vs ds → Vals vs us → ∃ as, ReadsAll s.heap us ds as ∧ sysModules ∉ as
  | _, _, _, .nil, r => by
    cases r
    exact ⟨_, ReadsAll.nil, fun z => nomatch z⟩
  | _, _, _, .cons h1 h2, .cons r1 r2 => by
    obtain ⟨as, q1, n1⟩ := DpD.reads I ns h1 r1
    obtain ⟨bs, q2, n2⟩ := DpDAll.reads I ns h2 r2
    refine ⟨_, ReadsAll.cons q1 q2, fun z => ?_⟩
    rcases List.mem_append.mp z with z | z
    · exact n1 z
    · exact n2 z
end
/-- repr(x), x a list, tuple or dict of data -/
def rRepr (K : PySem.W.Frag) : List V → Hp → VK → Prop := fun xs H Q => ∃ (a : Addr) (d : PyData), xs = [.ref a] ∧ DpD K H (.ref a) d ∧ d.showable = true ∧ d.depth ≤ 60 ∧ d.shown.length ≤ sizeLine ∧ Q (.str d.shown) H
theorem call_reprD {k : Nat} (hg : X.A.guards = some []) (hr : Room k X.A) (ns : NoSys X.K) : CallR X (.builtin "repr") (rRepr X.K) := by
  intro pins s σ H xs us Q I r h
  obtain ⟨a, d, rfl, hd, hs, hdep, hlen, q⟩ := h
  cases r with
  | cons r1 r2 =>
    cases r2
    obtain ⟨as, rd, na⟩ := DpD.reads I ns hd r1
    cases (show _ = Value.ref a from r1)
    refine repr_of_reads' rd hs (fun _ => na) hg (by have := hr.un; omega) (fun b o e => e) (fun h' u tk keep => ?_) hlen
    exact ⟨.str d.shown, H, I.un (t' := tk) (Un.kept keep) (I.hok.kept keep), ⟨u, rfl⟩, q⟩
end
end L2
end
section
set_option Elab.async false
set_option linter.all false
set_option maxRecDepth 100000
set_option maxHeartbeats 4000000
/-! K14a: the law's draws -/
namespace K14
open PySem PySem.Spec PyProof.Rows L2 PySem.EK
def top (i : Nat) : Stmt := PySem.Challenge.pw_fetchwalks_k14_errors_made.main.body.getD i (.Pass ⟨0, 0, 0, 0⟩)
abbrev FnP (K : PySem.W.Frag) (x : Str) (st : Stmt) (f : Addr) (fd : FuncData) : Prop := FunD K x x (defArgs st) (defBody st) (defScope st) [] [] f fd
abbrev sPot : Stmt := top 54
abbrev sDraw : Stmt := top 55
abbrev sPick : Stmt := top 56
/-- all but p is as it was -/
def SameB (p : Addr) (H H' : Hp) : Prop := ∀ b o, b ≠ p → H b = some o → H' b = some o
theorem SameB.refl (p : Addr) (H : Hp) : SameB p H H := fun _ _ _ e => e
theorem SameB.trans {p : Addr} {H H1 H2 : Hp} (a : SameB p H H1) (b : SameB p H1 H2) : SameB p H H2 := fun c o n e => b c o n (a c o n e)
def spPot (K : PySem.W.Frag) : Sp := fun vs H Q _ => ∃ (a : Addr) (ns : List Int) (k : Int), vs = [.ref a, .int k] ∧ SqL K H a (ns.map V.int) ∧ 0 ≤ k ∧ k ≤ 100 ∧
  ∀ p x y, H p = none → 0 ≤ x → 0 ≤ y → y < 2147483648 → Q (.ref p) (upd H p (.lst [.int x, .int y]))
def spDraw : Sp := fun vs H Q _ => ∃ (p : Addr) (x y m : Int), vs = [.ref p, .int m] ∧ H p = some (.lst [.int x, .int y]) ∧ 0 ≤ x ∧ 0 ≤ y ∧ y < 2147483648 ∧ 0 < m ∧ m < 1073741824 ∧
  ∀ H' x' y' d, SameB p H H' → H' p = some (.lst [.int x', .int y']) → 0 ≤ x' → 0 ≤ y' → y' < 2147483648 → 0 ≤ d → d < m → Q (.int d) H'
def spPick (K : PySem.W.Frag) : Sp := fun vs H Q _ => ∃ (p l : Addr) (x y : Int) (xs : List V), vs = [.ref p, .ref l] ∧ H p = some (.lst [.int x, .int y]) ∧ 0 ≤ x ∧ 0 ≤ y ∧ y < 2147483648 ∧ H l = some (.lst xs) ∧ l ≠ p ∧ xs ≠ [] ∧ xs.length < 1000000 ∧
  ∀ H' x' y' v, SameB p H H' → H' p = some (.lst [.int x', .int y']) → 0 ≤ x' → 0 ≤ y' → y' < 2147483648 → v ∈ xs → Q v H'
/-- the names that the law's text leaves to the built-ins -/
structure Bl (mg : Str → Option Value) : Prop where
  len : mg "len" = none
  abs : mg "abs" = none
  max : mg "max" = none
  min : mg "min" = none
  int : mg "int" = none
  divmod : mg "divmod" = none
  isinstance : mg "isinstance" = none
  repr : mg "repr" = none
  range : mg "range" = none
  all : mg "all" = none
  super : mg "super" = none
local macro_rules | `(tactic| walk_at "rd") => `(tactic| repeat (first
  | refine ⟨_, rfl, ?_⟩
  | refine ⟨_, _, rfl, rfl, (show CMul _ _ from Or.inl ⟨by decide, by decide⟩), ?_⟩
  | refine ⟨_, _, rfl, rfl, (show CPow _ _ from ⟨by decide, by decide, by decide⟩), ?_⟩
  | refine ⟨_, _, rfl, rfl, (show CDiv _ _ from ⟨by decide, by decide⟩), ?_⟩
  | refine ⟨_, _, rfl, rfl, (show (0 : Int) < _ by first | decide | assumption), ?_⟩
  | refine ⟨_, _, rfl, rfl, ?_⟩
  | refine ⟨_, _, rfl, ?_⟩
  | refine .inl ⟨_, rfl, ?_⟩
  | refine ⟨rfl, ?_⟩))
section
variable {P : Program} {w : World} {K : PySem.W.Frag} {mg : Str → Option Value} {base : Heap} {f : Addr} {fd : FuncData}
theorem scPot : FnScope ["_law_script", "_law_k", "_law_cell"] ["_law_script", "_law_k"] (defScope sPot) := ⟨rfl, rfl, rfl, by decide +kernel, rfl, by decide +kernel, by decide +kernel⟩
theorem cube_ok {k : Int} (h0 : 0 ≤ k) (h1 : k ≤ 100) : 0 ≤ (2 * k + 5) ^ 3 ∧ (2 * k + 5) ^ 3 < 18446744073709551616 := by
  have e : (2 * k + 5) ^ 3 = (2 * k + 5) * (2 * k + 5) * (2 * k + 5) := by
    rw [Int.pow_succ, Int.pow_succ, Int.pow_succ, Int.pow_zero, Int.one_mul]
  have h5 : 0 ≤ 2 * k + 5 := by omega
  have h6 : 2 * k + 5 ≤ 205 := by omega
  have a1 : (2 * k + 5) * (2 * k + 5) ≤ 205 * 205 := Int.mul_le_mul h6 h6 h5 (by decide)
  have a2 : 0 ≤ (2 * k + 5) * (2 * k + 5) := Int.mul_nonneg h5 h5
  have a3 : (2 * k + 5) * (2 * k + 5) * (2 * k + 5) ≤ 205 * 205 * 205 := Int.mul_le_mul a1 h6 h5 (by decide)
  have a4 : 0 ≤ (2 * k + 5) * (2 * k + 5) * (2 * k + 5) := Int.mul_nonneg a2 h5
  rw [e]
  omega
theorem ok_pot (F : FnP K "_law_pot" sPot f fd) (B : Bl mg) : FnOk P w K mg base CX0 1 f fd ["_law_script", "_law_k"] (spPot K) := by
  refine F.ok scPot (fun vs H Q E h => ?_) (fun cdv A outer s H vs Q E hr h => ?_)
  · obtain ⟨a, ns, k, rfl, _⟩ := h
    rfl
  · obtain ⟨a, ns, k, rfl, hS, h0, h1, hQ⟩ := h
    refine ⟨_, PSs.nox (pss_cons (ps_set (i := 2) scPot.nd rfl (Or.inl rfl) (pe_op op_add (pe_op op_mul pe_int (pv 1)) pe_int))
      (pss_cons (ps_if (pt_cmpR op_lt (pv 1) (pe_callB call_len_seq (by rfl) B.len (by decide +kernel) (pa_cons (pv 0) pa_nil)) (nomark _)) (pss_one (ps_set (i := 2) scPot.nd rfl (Or.inl rfl) (pe_callB call_abs (by rfl) B.abs (by decide +kernel) (pa_cons (pe_ix ix_list (pv 0) (pv 1) (fun _ _ => rfl)) pa_nil)))) pss_nil)
      (pss_one (ps_ret (pe_lst (pa_cons (pe_callB (call_max2 rfl) (by rfl) B.max (by decide +kernel) (pa_cons pe_int (pa_cons (pe_op op_sub (pv 2) (pe_op op_pow pe_int pe_int)) pa_nil))) (pa_cons (pe_op op_add (pe_op op_mod (pe_op op_mul (pe_callTy call_int1 (by rfl) B.int (by decide +kernel) (pa_cons (pe_op op_add (pe_op op_mod (pe_callTy call_int1 (by rfl) B.int (by decide +kernel) (pa_cons (pv 2) pa_nil)) pe_int) pe_int) pa_nil)) (pe_op op_pow (pe_op op_add (pe_op op_mul pe_int (pv 1)) pe_int) pe_int)) pe_int) pe_int) pa_nil))))))), ?_⟩
    walk_at "rd"
    refine ⟨a, _, rfl, .inl hS, ?_⟩
    walk_at "rd"
    obtain ⟨c1, c2⟩ := cube_ok h0 h1
    have c3 : 0 ≤ (2 * k + 5) ^ Int.toNat 3 := c1
    have c4 : (2 * k + 5) ^ Int.toNat 3 < 18446744073709551616 := c2
    have hp5 : CPow (2 * k + 5) 3 := ⟨by decide, by decide, by omega⟩
    refine ite2 (fun hc => ?_) (fun hc => ?_)
    · have hlt : k.toNat < ns.length := by
        have q : k < ((ns.map V.int).length : Int) := of_decide_eq_true hc
        rw [List.length_map] at q
        omega
      have hz : atI (ns.map V.int) k = some (V.int ns[k.toNat]) := by
        have e := atI_nat (xs := ns.map V.int) (j := k.toNat) (v := V.int ns[k.toNat]) (by simp [hlt])
        rw [Int.toNat_of_nonneg h0] at e
        exact e
      walk_at "rd"
      refine ⟨a, _, _, _, rfl, rfl, hS, hz, ?_⟩
      walk_at "rd"
      refine ⟨hp5, _, _, rfl, rfl, Or.inr ⟨by omega, by omega⟩, ?_⟩
      walk_at "rd"
      refine ⟨(by show 2 ≤ sizeLine; decide), fun p hp => ?_⟩
      refine hQ p _ _ hp ?_ ?_ ?_
      · split <;> omega
      · have := Int.emod_nonneg (((if ns[k.toNat] < 0 then -ns[k.toNat] else ns[k.toNat]) % 2147483587 + 7) * (2 * k + 5) ^ Int.toNat 3) (b := 2147483549) (by decide)
        omega
      · have := Int.emod_lt_of_pos (((if ns[k.toNat] < 0 then -ns[k.toNat] else ns[k.toNat]) % 2147483587 + 7) * (2 * k + 5) ^ Int.toNat 3) (b := 2147483549) (by decide)
        omega
    · walk_at "rd"
      refine ⟨hp5, _, _, rfl, rfl, Or.inr ⟨by omega, by omega⟩, ?_⟩
      walk_at "rd"
      refine ⟨(by show 2 ≤ sizeLine; decide), fun p hp => ?_⟩
      refine hQ p _ _ hp ?_ ?_ ?_
      · split <;> omega
      · have := Int.emod_nonneg (((29 * k + 11) % 2147483587 + 7) * (2 * k + 5) ^ Int.toNat 3) (b := 2147483549) (by decide)
        omega
      · have := Int.emod_lt_of_pos (((29 * k + 11) % 2147483587 + 7) * (2 * k + 5) ^ Int.toNat 3) (b := 2147483549) (by decide)
        omega
theorem scDraw : FnScope ["_law_pot_here", "_law_many", "_law_digit"] ["_law_pot_here", "_law_many"] (defScope sDraw) := ⟨rfl, rfl, rfl, by decide +kernel, rfl, by decide +kernel, by decide +kernel⟩
theorem ok_draw (F : FnP K "_law_draw" sDraw f fd) (B : Bl mg) : FnOk P w K mg base CX0 1 f fd ["_law_pot_here", "_law_many"] spDraw := by
  refine F.ok scDraw (fun vs H Q E h => ?_) (fun cdv A outer s H vs Q E hr h => ?_)
  · obtain ⟨p, x, y, m, rfl, _⟩ := h
    rfl
  · obtain ⟨p, x, y, m, rfl, hp, hx, hy, hy2, hm, hm2, hQ⟩ := h
    refine ⟨_, PSs.nox (pss_cons (ps_if (pt_cmpR op_gt (pe_ix ix_list (pv 0) pe_int (fun _ _ => rfl)) pe_int (nomark _)) (pss_cons (ps_asg (pe_callB call_divmodW (by rfl) B.divmod (by decide +kernel) (pa_cons (pe_ix ix_list (pv 0) pe_int (fun _ _ => rfl)) (pa_cons (pv 1) pa_nil))) (pg_tup (by rfl) (pgs_cons (pg_sub (pv 0) pe_int set_list) (pgs_cons (pg_name (i := 2) scDraw.nd rfl (Or.inl rfl)) pgs_nil))))
      (pss_one (ps_ret (pv 2)))) pss_nil)
      (pss_cons (ps_asg (pe_op op_mod (pe_callTy call_int1 (by rfl) B.int (by decide +kernel) (pa_cons (pe_op op_add (pe_op op_mul (pe_ix ix_list (pv 0) pe_int (fun _ _ => rfl)) pe_int) pe_int) pa_nil)) pe_int) (pg_sub (pv 0) pe_int set_list))
      (pss_one (ps_ret (pe_op op_mod (pe_callTy call_int1 (by rfl) B.int (by decide +kernel) (pa_cons (pe_op op_fdiv (pe_op op_mod (pe_callTy call_int1 (by rfl) B.int (by decide +kernel) (pa_cons (pe_op op_mul (pe_ix ix_list (pv 0) pe_int (fun _ _ => rfl)) (pe_ix ix_list (pv 0) pe_int (fun _ _ => rfl))) pa_nil)) pe_int) pe_int) pa_nil)) (pv 1)))))), ?_⟩
    walk_at "rd"
    refine ⟨p, _, _, _, rfl, rfl, SqL.of hp, rfl, ?_⟩
    walk_at "rd"
    refine ite2 (fun hc => ?_) (fun hc => ?_)
    · walk_at "rd"
      refine ⟨p, _, _, _, rfl, rfl, SqL.of hp, rfl, ?_⟩
      walk_at "rd"
      refine ⟨⟨hm, PyProof.noPylong_small (by omega)⟩, fun t ht => ?_⟩
      have ntp : p ≠ t := ne_of_none hp ht
      refine ⟨t, _, rfl, SqT.of upd_same, rfl, _, _, rfl, _, rfl, p, _, _, 0, rfl, rfl, by rw [upd_ne ntp]; exact hp, rfl, _, _, rfl, rfl, ?_⟩
      refine ⟨_, rfl, ?_⟩
      refine hQ _ (x / m) y _ (fun b o nb e => ?_) upd_same (Int.ediv_nonneg hx (by omega)) hy hy2 (Int.emod_nonneg _ (by omega)) (Int.emod_lt_of_pos _ hm)
      rw [upd_ne nb, upd_ne (ne_of_none e ht)]
      exact e
    · walk_at "rd"
      refine ⟨p, _, _, _, rfl, rfl, SqL.of hp, rfl, ?_⟩
      refine ⟨_, _, rfl, rfl, Or.inl ⟨by omega, by omega⟩, ?_⟩
      walk_at "rd"
      refine ⟨p, _, _, 1, rfl, rfl, hp, rfl, ?_⟩
      have n1 := Int.emod_nonneg (y * 39373 + 12227) (b := 2147483629) (by decide)
      have n2 := Int.emod_lt_of_pos (y * 39373 + 12227) (b := 2147483629) (by decide)
      walk_at "rd"
      refine ⟨p, _, _, _, rfl, rfl, SqL.of upd_same, rfl, ?_⟩
      walk_at "rd"
      refine ⟨p, _, _, _, rfl, rfl, SqL.of upd_same, rfl, ?_⟩
      refine ⟨_, _, rfl, rfl, Or.inl ⟨by omega, by omega⟩, ?_⟩
      walk_at "rd"
      refine hQ _ x _ _ (fun b o nb e => by rw [upd_ne nb]; exact e) upd_same hx n1 (by omega) (Int.emod_nonneg _ (by omega)) (Int.emod_lt_of_pos _ hm)
theorem scPick : FnScope ["_law_pot_here", "_law_some"] ["_law_pot_here", "_law_some"] (defScope sPick) := ⟨rfl, rfl, rfl, by decide +kernel, rfl, by decide +kernel, by decide +kernel⟩
theorem ok_pick {fD : Addr} {fdD : FuncData} (F : FnP K "_law_pick" sPick f fd) (B : Bl mg) (FD : FnP K "_law_draw" sDraw fD fdD) (gD : mg "_law_draw" = some (.ref fD)) : FnOk P w K mg base CX0 2 f fd ["_law_pot_here", "_law_some"] (spPick K) := by
  have GD : FnOk P w K mg base CX0 1 fD fdD ["_law_pot_here", "_law_many"] spDraw := ok_draw FD B
  have bD : Binds K fdD ["_law_pot_here", "_law_many"] [] := FD.bindsN fun _ _ _ _ _ _ us hl => match us, hl with | [_, _], _ => rfl
  refine F.ok scPick (fun vs H Q E h => ?_) (fun cdv A outer s H vs Q E hr h => ?_)
  · obtain ⟨p, l, x, y, xs, rfl, _⟩ := h
    rfl
  · obtain ⟨p, l, x, y, xs, rfl, hp, hx, hy, hy2, hl, hne, hnil, hlen, hQ⟩ := h
    refine ⟨_, PSs.nox (pss_one (ps_ret (pe_ix ix_list (pv 1) (pe_call GD hr rfl gD FD.kp bD .nil pass0 (pa_cons (pv 0) (pa_cons (pe_callB call_len_seq (by rfl) B.len (by decide +kernel) (pa_cons (pv 1) pa_nil)) pa_nil))) (fun _ _ => rfl)))), ?_⟩
    have hpos : 0 < xs.length := List.length_pos_iff.mpr hnil
    refine ⟨_, rfl, _, rfl, _, rfl, l, _, rfl, .inl (SqL.of hl), p, x, y, _, rfl, hp, hx, hy, hy2, by omega, by omega, fun H' x' y' d sb hp' hx' hy' hy2' hd hd2 => ?_⟩
    have hl' : H' l = some (.lst xs) := sb l _ hne hl
    have hlt : d.toNat < xs.length := by omega
    have hat : atI xs d = some xs[d.toNat] := by
      have e := atI_nat (xs := xs) (j := d.toNat) (v := xs[d.toNat]) (by simp [hlt])
      rw [Int.toNat_of_nonneg hd] at e
      exact e
    exact ⟨l, _, _, _, rfl, rfl, SqL.of hl', hat, hQ H' x' y' _ sb hp' hx' hy' hy2' (List.getElem_mem hlt)⟩
end
end K14
end
section
set_option Elab.async false
set_option linter.all false
set_option maxRecDepth 100000
set_option maxHeartbeats 4000000
/-! K14b: a part of an error; its bases -/
namespace K14
open PySem PySem.Spec PyProof.Rows L2 PySem.EK
abbrev sPart : Stmt := top 62
abbrev sBases : Stmt := top 63
/-- the words that are asked -/
def asked : List Str := ["position", "name", "value", "problem", "place", "find", "line", "kind", "number", "field", "by", "ring", "link", "word", "one", "other", "first", "second", "what", "limit"]
def spPart (K : PySem.W.Frag) : Sp := fun vs H Q _ => ∃ (e C : Addr) (ask : Str) (fs : List (Str × V)) (v : V), vs = [.ref e, .str ask] ∧ ask ∈ asked ∧ ErrAt H e C fs ∧ ErrA K C ask ∧ fs.lookup ask = some v ∧ ∀ H', Same H H' → Q v H'
theorem same_upd {H : Hp} {p : Addr} {o : HO} (h : H p = none) : Same H (upd H p o) := fun b u e => by
  rw [upd_ne (ne_of_none e h)]
  exact e
theorem inV_two (x a b : Str) : inV (.str x) [.str a, .str b] = (decide (x = a) || decide (x = b)) := by
  show ((eqV (.str a) (.str x)) || ((eqV (.str b) (.str x)) || false)) = _
  rw [Bool.or_false]
  have e : ∀ c : Str, eqV (.str c) (.str x) = decide (x = c) := fun c => by
    show decide (c = x) = decide (x = c)
    by_cases h : x = c
    · rw [decide_eq_true h, decide_eq_true h.symm]
    · rw [decide_eq_false h, decide_eq_false fun z => h z.symm]
  rw [e, e]
/-- one pair of words -/
theorem pair_step {K : PySem.W.Frag} {e C : Addr} {ask a b : Str} {fs : List (Str × V)} {v : V} {H : Hp} {D : Ends} {u : TS} (hat : ErrAt H e C fs) (hA : ErrA K C ask) (hl : fs.lookup ask = some v)
    (ret : ∀ H', Same H H' → D.rt v H') (next : ∀ H', Same H H' → ask ≠ a → ask ≠ b → u D [some (.ref e), some (.str ask)] H') :
    tSeq (tIfS (tTest (tOp (rIn K false) (tVar 1) (tTup (tCons (tC (.str a)) (tCons (tC (.str b)) tNil))))) (tRet (tIf (tTest (tOp rEq (tVar 1) (tC (.str a)))) (tEA K a (tVar 0)) (tEA K b (tVar 0)))) tNext) u D [some (.ref e), some (.str ask)] H := by
  refine ⟨_, rfl, (by show 2 ≤ sizeLine; decide), fun t ht => ⟨t, _, rfl, .inr (SqT.of upd_same), rfl, rfl, _, rfl, ?_⟩⟩
  have hs : Same H (upd H t (.tup [.str a, .str b])) := same_upd ht
  have hi : (if false = true then !inV (.str ask) [.str a, .str b] else inV (.str ask) [.str a, .str b]) = (decide (ask = a) || decide (ask = b)) := inV_two ask a b
  show if (if false = true then !inV (.str ask) [.str a, .str b] else inV (.str ask) [.str a, .str b]) = true then _ else _
  rw [hi]
  refine ite2 (fun hc => ?_) (fun hc => ?_)
  · refine ⟨_, rfl, rfl, _, rfl, ?_⟩
    have hx : decide (V.str ask = V.str a) = decide (ask = a) := by simp
    rw [hx]
    refine ite2 (fun h1 => ?_) (fun h1 => ?_)
    · have e1 : ask = a := of_decide_eq_true h1
      subst e1
      exact ⟨_, rfl, e, C, fs, v, rfl, hat.same hs, hA, hl, ret _ hs⟩
    · have e1 : ask = b := by
        have q : ask = a ∨ ask = b := by simpa using hc
        rcases q with q | q
        · exact absurd (decide_eq_true q) h1
        · exact q
      subst e1
      exact ⟨_, rfl, e, C, fs, v, rfl, hat.same hs, hA, hl, ret _ hs⟩
  · have q : ¬ (ask = a ∨ ask = b) := by simpa using hc
    exact next _ hs (fun z => q (.inl z)) (fun z => q (.inr z))
section
variable {P : Program} {w : World} {K : PySem.W.Frag} {mg : Str → Option Value} {base : Heap} {f : Addr} {fd : FuncData}
theorem scPart : FnScope ["_law_error", "_law_ask"] ["_law_error", "_law_ask"] (defScope sPart) := ⟨rfl, rfl, rfl, by decide +kernel, rfl, by decide +kernel, by decide +kernel⟩
theorem ok_part (F : FnP K "_law_part" sPart f fd) : FnOk P w K mg base CX0 1 f fd ["_law_error", "_law_ask"] (spPart K) := by
  refine F.ok scPart (fun vs H Q E h => ?_) (fun cdv A outer s H vs Q E hr h => ?_)
  · obtain ⟨e, C, ask, fs, v, rfl, _⟩ := h
    rfl
  · obtain ⟨e, C, ask, fs, v, rfl, hmem, hat, hA, hl, hQ⟩ := h
    refine ⟨_, PSs.nox (pss_cons (ps_if (pt_cmpR op_in_seq (pv 1) (pe_tup (pa_cons pe_str (pa_cons pe_str pa_nil))) (by rfl)) (pss_one (ps_ret (pe_ifExp (pt_cmpR op_eq (pv 1) pe_str (nomark _)) (pe_ea (pv 0) rfl) (pe_ea (pv 0) rfl)))) pss_nil)
      (pss_cons (ps_if (pt_cmpR op_in_seq (pv 1) (pe_tup (pa_cons pe_str (pa_cons pe_str pa_nil))) (by rfl)) (pss_one (ps_ret (pe_ifExp (pt_cmpR op_eq (pv 1) pe_str (nomark _)) (pe_ea (pv 0) rfl) (pe_ea (pv 0) rfl)))) pss_nil)
      (pss_cons (ps_if (pt_cmpR op_in_seq (pv 1) (pe_tup (pa_cons pe_str (pa_cons pe_str pa_nil))) (by rfl)) (pss_one (ps_ret (pe_ifExp (pt_cmpR op_eq (pv 1) pe_str (nomark _)) (pe_ea (pv 0) rfl) (pe_ea (pv 0) rfl)))) pss_nil)
      (pss_cons (ps_if (pt_cmpR op_in_seq (pv 1) (pe_tup (pa_cons pe_str (pa_cons pe_str pa_nil))) (by rfl)) (pss_one (ps_ret (pe_ifExp (pt_cmpR op_eq (pv 1) pe_str (nomark _)) (pe_ea (pv 0) rfl) (pe_ea (pv 0) rfl)))) pss_nil)
      (pss_cons (ps_if (pt_cmpR op_in_seq (pv 1) (pe_tup (pa_cons pe_str (pa_cons pe_str pa_nil))) (by rfl)) (pss_one (ps_ret (pe_ifExp (pt_cmpR op_eq (pv 1) pe_str (nomark _)) (pe_ea (pv 0) rfl) (pe_ea (pv 0) rfl)))) pss_nil)
      (pss_cons (ps_if (pt_cmpR op_in_seq (pv 1) (pe_tup (pa_cons pe_str (pa_cons pe_str pa_nil))) (by rfl)) (pss_one (ps_ret (pe_ifExp (pt_cmpR op_eq (pv 1) pe_str (nomark _)) (pe_ea (pv 0) rfl) (pe_ea (pv 0) rfl)))) pss_nil)
      (pss_cons (ps_if (pt_cmpR op_in_seq (pv 1) (pe_tup (pa_cons pe_str (pa_cons pe_str pa_nil))) (by rfl)) (pss_one (ps_ret (pe_ifExp (pt_cmpR op_eq (pv 1) pe_str (nomark _)) (pe_ea (pv 0) rfl) (pe_ea (pv 0) rfl)))) pss_nil)
      (pss_cons (ps_if (pt_cmpR op_in_seq (pv 1) (pe_tup (pa_cons pe_str (pa_cons pe_str pa_nil))) (by rfl)) (pss_one (ps_ret (pe_ifExp (pt_cmpR op_eq (pv 1) pe_str (nomark _)) (pe_ea (pv 0) rfl) (pe_ea (pv 0) rfl)))) pss_nil)
      (pss_cons (ps_if (pt_cmpR op_in_seq (pv 1) (pe_tup (pa_cons pe_str (pa_cons pe_str pa_nil))) (by rfl)) (pss_one (ps_ret (pe_ifExp (pt_cmpR op_eq (pv 1) pe_str (nomark _)) (pe_ea (pv 0) rfl) (pe_ea (pv 0) rfl)))) pss_nil)
      (pss_one (ps_ret (pe_ifExp (pt_cmpR op_eq (pv 1) pe_str (nomark _)) (pe_ea (pv 0) rfl) (pe_ea (pv 0) rfl))))))))))))), ?_⟩
    refine pair_step hat hA hl (fun H' q => hQ _ q) fun H1 s1 n1 m1 => ?_
    have t1 := s1
    refine pair_step (hat.same t1) hA hl (fun H' q => hQ _ (t1.trans q)) fun H2 s2 n2 m2 => ?_
    have t2 := t1.trans s2
    refine pair_step (hat.same t2) hA hl (fun H' q => hQ _ (t2.trans q)) fun H3 s3 n3 m3 => ?_
    have t3 := t2.trans s3
    refine pair_step (hat.same t3) hA hl (fun H' q => hQ _ (t3.trans q)) fun H4 s4 n4 m4 => ?_
    have t4 := t3.trans s4
    refine pair_step (hat.same t4) hA hl (fun H' q => hQ _ (t4.trans q)) fun H5 s5 n5 m5 => ?_
    have t5 := t4.trans s5
    refine pair_step (hat.same t5) hA hl (fun H' q => hQ _ (t5.trans q)) fun H6 s6 n6 m6 => ?_
    have t6 := t5.trans s6
    refine pair_step (hat.same t6) hA hl (fun H' q => hQ _ (t6.trans q)) fun H7 s7 n7 m7 => ?_
    have t7 := t6.trans s7
    refine pair_step (hat.same t7) hA hl (fun H' q => hQ _ (t7.trans q)) fun H8 s8 n8 m8 => ?_
    have t8 := t7.trans s8
    refine pair_step (hat.same t8) hA hl (fun H' q => hQ _ (t8.trans q)) fun H9 s9 n9 m9 => ?_
    have t9 := t8.trans s9
    refine ⟨_, rfl, rfl, _, rfl, ?_⟩
    have hx : decide (V.str ask = V.str (Str.ofString "what")) = decide (ask = "what") := by simp
    show if decide (V.str ask = V.str (Str.ofString "what")) = true then _ else _
    rw [hx]
    have hw : ask = "what" ∨ ask = "limit" := by
      simp only [asked, List.mem_cons, List.not_mem_nil, or_false] at hmem
      rcases hmem with h | h | h | h | h | h | h | h | h | h | h | h | h | h | h | h | h | h | h | h <;> first | exact absurd h ‹_› | exact .inl h | exact .inr h
    refine ite2 (fun h1 => ?_) (fun h1 => ?_)
    · have e1 : ask = "what" := of_decide_eq_true h1
      subst e1
      exact ⟨_, rfl, e, C, fs, v, rfl, hat.same t9, hA, hl, hQ _ t9⟩
    · have e1 : ask = "limit" := by
        rcases hw with q | q
        · exact absurd (decide_eq_true q) h1
        · exact q
      subst e1
      exact ⟨_, rfl, e, C, fs, v, rfl, hat.same t9, hA, hl, hQ _ t9⟩
/-- what is known of the four own bases, of Python's four -/
structure BT (K : PySem.W.Frag) (mg : Str → Option Value) (C0 C1 C2 C3 : Addr) : Prop where
  gFetchError : mg "FetchError" = some (.ref C0)
  gMissingError : mg "MissingError" = some (.ref C1)
  gStateError : mg "StateError" = some (.ref C2)
  gLimitError : mg "LimitError" = some (.ref C3)
  nValueError : mg "ValueError" = none
  nLookupError : mg "LookupError" = none
  nRuntimeError : mg "RuntimeError" = none
  nArithmeticError : mg "ArithmeticError" = none
/-- the class at C stands under the base number j -/
structure Under (K : PySem.W.Frag) (C0 C1 C2 C3 C : Addr) (j : Nat) : Prop where
  ex : ExcC K C
  o0 : PySem.W.kitOne K (.ref C) (.ref C0) = some (decide (j = 0))
  o1 : PySem.W.kitOne K (.ref C) (.ref C1) = some (decide (j = 1))
  o2 : PySem.W.kitOne K (.ref C) (.ref C2) = some (decide (j = 2))
  o3 : PySem.W.kitOne K (.ref C) (.ref C3) = some (decide (j = 3))
  p0 : PySem.W.kitOne K (.ref C) (.type "ValueError") = some (decide (j = 0))
  p1 : PySem.W.kitOne K (.ref C) (.type "LookupError") = some (decide (j = 1))
  p2 : PySem.W.kitOne K (.ref C) (.type "RuntimeError") = some (decide (j = 2))
  p3 : PySem.W.kitOne K (.ref C) (.type "ArithmeticError") = some (decide (j = 3))
def dueV (j : Nat) : List V := [.bl (decide (j = 0)), .bl (decide (j = 1)), .bl (decide (j = 2)), .bl (decide (j = 3))]
def spBases (K : PySem.W.Frag) (C0 C1 C2 C3 : Addr) : Sp := fun vs H Q _ => ∃ (e C : Addr) (fs : List (Str × V)) (j : Nat), vs = [.ref e] ∧ ErrAt H e C fs ∧ Under K C0 C1 C2 C3 C j ∧
  ∀ H' p q r, Same H H' → H' p = some (.lst [.ref q, .ref r]) → H' q = some (.lst (dueV j)) → H' r = some (.lst (dueV j)) → Q (.ref p) H'
theorem scBases : FnScope ["_law_error", "_law_own", "_law_python"] ["_law_error"] (defScope sBases) := ⟨rfl, rfl, rfl, by decide +kernel, rfl, by decide +kernel, by decide +kernel⟩
theorem ok_bases {C0 C1 C2 C3 : Addr} (F : FnP K "_law_bases" sBases f fd) (B : Bl mg) (T : BT K mg C0 C1 C2 C3) : FnOk P w K mg base CX0 1 f fd ["_law_error"] (spBases K C0 C1 C2 C3) := by
  refine F.ok scBases (fun vs H Q E h => ?_) (fun cdv A outer s H vs Q E hr h => ?_)
  · obtain ⟨e, C, fs, j, rfl, _⟩ := h
    rfl
  · obtain ⟨e, C, fs, j, rfl, hat, U, hQ⟩ := h
    refine ⟨_, PSs.nox (pss_cons (ps_set (i := 1) scBases.nd rfl (Or.inl rfl) (pe_lst (pa_cons (pe_callB call_isX (by rfl) B.isinstance (by decide +kernel) (pa_cons (pv 0) (pa_cons (pe_glob (v := .ref C0) (by rfl) T.gFetchError rfl) pa_nil))) (pa_cons (pe_callB call_isX (by rfl) B.isinstance (by decide +kernel) (pa_cons (pv 0) (pa_cons (pe_glob (v := .ref C1) (by rfl) T.gMissingError rfl) pa_nil))) pa_nil))))
      (pss_cons (ps_set (i := 1) scBases.nd rfl (Or.inl rfl) (pe_op op_cat (pv 1) (pe_lst (pa_cons (pe_callB call_isX (by rfl) B.isinstance (by decide +kernel) (pa_cons (pv 0) (pa_cons (pe_glob (v := .ref C2) (by rfl) T.gStateError rfl) pa_nil))) (pa_cons (pe_callB call_isX (by rfl) B.isinstance (by decide +kernel) (pa_cons (pv 0) (pa_cons (pe_glob (v := .ref C3) (by rfl) T.gLimitError rfl) pa_nil))) pa_nil)))))
      (pss_cons (ps_set (i := 2) scBases.nd rfl (Or.inl rfl) (pe_lst (pa_cons (pe_callB call_isX (by rfl) B.isinstance (by decide +kernel) (pa_cons (pv 0) (pa_cons (pe_bltn (v := .ty "ValueError") (by rfl) T.nValueError PyProof.Rows.Boot.«ValueError» rfl) pa_nil))) (pa_cons (pe_callB call_isX (by rfl) B.isinstance (by decide +kernel) (pa_cons (pv 0) (pa_cons (pe_bltn (v := .ty "LookupError") (by rfl) T.nLookupError PyProof.Rows.Boot.«LookupError» rfl) pa_nil))) pa_nil))))
      (pss_one (ps_ret (pe_lst (pa_cons (pv 1) (pa_cons (pe_op op_cat (pv 2) (pe_lst (pa_cons (pe_callB call_isX (by rfl) B.isinstance (by decide +kernel) (pa_cons (pv 0) (pa_cons (pe_bltn (v := .ty "RuntimeError") (by rfl) T.nRuntimeError PyProof.Rows.Boot.«RuntimeError» rfl) pa_nil))) (pa_cons (pe_callB call_isX (by rfl) B.isinstance (by decide +kernel) (pa_cons (pv 0) (pa_cons (pe_bltn (v := .ty "ArithmeticError") (by rfl) T.nArithmeticError PyProof.Rows.Boot.«ArithmeticError» rfl) pa_nil))) pa_nil)))) pa_nil)))))))), ?_⟩
    refine ⟨_, rfl, e, C, fs, _, _, _, rfl, hat, U.ex, .own _, U.o0, ?_⟩
    refine ⟨_, rfl, e, C, fs, _, _, _, rfl, hat, U.ex, .own _, U.o1, ?_⟩
    refine ⟨(by show 2 ≤ sizeLine; decide), fun l1 h1 => ?_⟩
    have s1 := same_upd (o := .lst [.bl (decide (j = 0)), .bl (decide (j = 1))]) h1
    refine ⟨_, rfl, ?_⟩
    refine ⟨_, rfl, e, C, fs, _, _, _, rfl, hat.same s1, U.ex, .own _, U.o2, ?_⟩
    refine ⟨_, rfl, e, C, fs, _, _, _, rfl, hat.same s1, U.ex, .own _, U.o3, ?_⟩
    refine ⟨(by show 2 ≤ sizeLine; decide), fun l2 h2 => ?_⟩
    have n12 : l1 ≠ l2 := ne_of_none upd_same h2
    refine ⟨l1, l2, _, _, rfl, rfl, by rw [upd_ne n12]; exact upd_same, upd_same, by show 4 ≤ sizeLine; decide, fun l3 h3 => ?_⟩
    have s3 := (s1.trans (same_upd h2)).trans (same_upd (o := .lst (dueV j)) h3)
    refine ⟨_, rfl, e, C, fs, _, _, _, rfl, hat.same s3, U.ex, .ty _, U.p0, ?_⟩
    refine ⟨_, rfl, e, C, fs, _, _, _, rfl, hat.same s3, U.ex, .ty _, U.p1, ?_⟩
    refine ⟨(by show 2 ≤ sizeLine; decide), fun l4 h4 => ?_⟩
    have k3 : ∀ {H1 : Hp} {o : HO} {a : Addr}, H1 a = none → H1 l3 = some (.lst (dueV j)) → upd H1 a o l3 = some (.lst (dueV j)) := fun n h => by rw [upd_ne (ne_of_none h n)]; exact h
    have s4 := s3.trans (same_upd (o := .lst [.bl (decide (j = 0)), .bl (decide (j = 1))]) h4)
    have q4 := k3 (o := .lst [.bl (decide (j = 0)), .bl (decide (j = 1))]) h4 upd_same
    refine ⟨_, rfl, _, rfl, ?_⟩
    refine ⟨_, rfl, e, C, fs, _, _, _, rfl, hat.same s4, U.ex, .ty _, U.p2, ?_⟩
    refine ⟨_, rfl, e, C, fs, _, _, _, rfl, hat.same s4, U.ex, .ty _, U.p3, ?_⟩
    refine ⟨(by show 2 ≤ sizeLine; decide), fun l5 h5 => ?_⟩
    have s5 := s4.trans (same_upd (o := .lst [.bl (decide (j = 2)), .bl (decide (j = 3))]) h5)
    have q5 := k3 (o := .lst [.bl (decide (j = 2)), .bl (decide (j = 3))]) h5 q4
    have n45 : l4 ≠ l5 := ne_of_none upd_same h5
    refine ⟨l4, l5, _, _, rfl, rfl, by rw [upd_ne n45]; exact upd_same, upd_same, by show 4 ≤ sizeLine; decide, fun l6 h6 => ?_⟩
    have s6 := s5.trans (same_upd (o := .lst (dueV j)) h6)
    have q6 := k3 (o := .lst (dueV j)) h6 q5
    refine ⟨(by show 2 ≤ sizeLine; decide), fun l7 h7 => ?_⟩
    refine hQ _ l7 l3 l6 (s6.trans (same_upd h7)) upd_same (k3 h7 q6) ?_
    rw [upd_ne (ne_of_none upd_same h7)]
    exact upd_same
end
end K14
end
section
set_option Elab.async false
set_option linter.all false
set_option maxRecDepth 100000
set_option maxHeartbeats 4000000
/-! K14c: the lists of errors and their words -/
namespace K14
open PySem PySem.Spec PyProof.Rows L2 PySem.EK
def gPos {α : Type} (us _ws : List α) : List α := us
def gKey {α : Type} (_us ws : List α) : List α := ws.reverse
/-- the error classes of the text: name, fields, number of the base -/
def tableA : List (Str × List Str × Nat) := [("InvalidKinds", ["position"], 0), ("InvalidFields", ["name"], 0), ("InvalidFlags", ["name"], 0), ("InvalidSchema", ["value"], 0), ("InvalidId", ["value"], 0), ("InvalidRow", ["name"], 0), ("InvalidRows", ["position"], 0), ("InvalidStore", ["value"], 0), ("InvalidWalk", ["problem", "place"], 0), ("NoWalk", ["value"], 0), ("InvalidRoots", ["find"], 0), ("InvalidWord", ["value"], 0), ("InvalidPlan", ["value"], 0), ("InvalidLinks", ["position"], 0), ("InvalidRoute", ["value"], 0), ("InvalidPlace", ["value"], 0), ("InvalidPlaces", ["value"], 0), ("InvalidSizeName", ["value"], 0), ("InvalidSize", ["value"], 0), ("InvalidSizes", ["value"], 0), ("InvalidNumber", ["value"], 0), ("InvalidSum", ["value"], 0), ("InvalidChange", ["position"], 0), ("InvalidValue", ["value"], 0), ("InvalidText", ["line"], 0), ("InvalidClaim", ["value"], 0), ("InvalidCommand", ["value"], 0)]
def tableB : List (Str × List Str × Nat) := [("UnknownKind", ["value"], 1), ("UnknownLink", ["value"], 1), ("UnknownObject", ["kind", "number"], 1), ("UnknownTarget", ["field", "number"], 1), ("UnknownSpot", ["value"], 1), ("UnknownPath", ["value"], 1), ("UnknownFind", ["value"], 1), ("UnknownName", ["value"], 1), ("TargetTaken", ["field", "number", "by"], 2), ("RowRefused", ["kind", "number"], 2), ("LinkRing", ["ring"], 2), ("WordRefused", ["link", "word"], 2), ("OtherSchema", [], 2), ("OtherFinds", ["one", "other"], 2), ("NameTaken", ["name"], 2), ("NotKept", ["kind", "number"], 2), ("ChangesRefused", ["position"], 2), ("SaveRefused", ["first", "second"], 2), ("NothingToUndo", [], 2), ("CommandFailed", ["position"], 2), ("TooMany", ["what", "limit"], 3)]
def table : List (Str × List Str × Nat) := tableA ++ tableB
/-- an error class of the text: x with the fields fs, under the base number j -/
structure ErrK (P : Program) (K : PySem.W.Frag) (mg : Str → Option Value) (C0 C1 C2 C3 : Addr) (x : Str) (fs : List Str) (j : Nat) (C fI : Addr) (B newId initId : String) (bmB : List Value) (rs : List Addr) (fd : FuncData) : Prop where
  g : mg x = some (.ref C)
  T : ErrT P K C fI B newId initId bmB rs fs fd
  pos : EB fd fs fs.length [] (@gPos)
  key : EB fd fs 0 fs.reverse (@gKey)
  u : Under K C0 C1 C2 C3 C j
def ErrX (P : Program) (K : PySem.W.Frag) (mg : Str → Option Value) (C0 C1 C2 C3 : Addr) (x : Str) (fs : List Str) (j : Nat) : Prop := ∃ C fI B newId initId bmB rs fd, ErrK P K mg C0 C1 C2 C3 x fs j C fI B newId initId bmB rs fd
/-- what a row leans on -/
structure Good (K : PySem.W.Frag) (C0 C1 C2 C3 C : Addr) (fs : List Str) (j : Nat) : Prop where
  u : Under K C0 C1 C2 C3 C j
  a : ∀ f ∈ fs, ErrA K C f
theorem ErrK.good {P : Program} {K : PySem.W.Frag} {mg : Str → Option Value} {C0 C1 C2 C3 : Addr} {x : Str} {fs : List Str} {j : Nat} {C fI : Addr} {B newId initId : String} {bmB : List Value} {rs : List Addr} {fd : FuncData} (E : ErrK P K mg C0 C1 C2 C3 x fs j C fI B newId initId bmB rs fd) : Good K C0 C1 C2 C3 C fs j :=
  ⟨E.u, fun f hf => ⟨E.T.ga, E.T.gg, E.T.exC, E.T.hdC, E.T.noF f hf⟩⟩
def nz (z : Str) : Bool := decide (z ≠ "")
def wordsOf (w : Str) : List Str := (Txt.split w " ").filter nz
/-- a row: a tuple of an error and its words -/
def RowOk (K : PySem.W.Frag) (C0 C1 C2 C3 : Addr) (j : Nat) (vals : List V) (H : Hp) (v : V) : Prop := ∃ (t e C : Addr) (w : Str) (fs : List Str), v = .ref t ∧ H t = some (.tup [.ref e, .str w]) ∧ ErrAt H e C (fs.zip vals) ∧ Good K C0 C1 C2 C3 C fs j ∧
  wordsOf w = fs ∧ fs.all (asked.contains ·) = true ∧ fs.length ≤ vals.length ∧ fs.Nodup ∧ w.length ≤ 100
theorem RowOk.sameB {K : PySem.W.Frag} {C0 C1 C2 C3 : Addr} {j : Nat} {vals : List V} {H H' : Hp} {v : V} {l : Addr} {xs : List V} (s : SameB l H H') (hl : H l = some (.lst xs)) (h : RowOk K C0 C1 C2 C3 j vals H v) : RowOk K C0 C1 C2 C3 j vals H' v := by
  obtain ⟨t, e, C, w, fs, rfl, ht, he, r⟩ := h
  have k : ∀ {a : Addr} {o : HO}, H a = some o → o ≠ .lst xs → H' a = some o := fun {a o} ha hn => s a o (ne_of ha hl hn) ha
  refine ⟨t, e, C, w, fs, rfl, k ht (fun z => by cases z), ?_, r⟩
  rcases he with ⟨q, h⟩ | ⟨d, h, h'⟩
  · exact .inl ⟨q, k h (fun z => by cases z)⟩
  · exact .inr ⟨d, k h (fun z => by cases z), k h' (fun z => by cases z)⟩
/-- so far the list at l, new behind H0, holds the rows -/
structure RowsAt (K : PySem.W.Frag) (C0 C1 C2 C3 : Addr) (j : Nat) (vals : List V) (H0 H : Hp) (l : Addr) (n : Nat) (rows : List V) : Prop where
  len : rows.length = n
  new : H0 l = none
  same : Same H0 H
  at_ : H l = some (.lst rows)
  ok : ∀ v ∈ rows, RowOk K C0 C1 C2 C3 j vals H v
theorem rows_start {K : PySem.W.Frag} {C0 C1 C2 C3 : Addr} {j : Nat} {vals : List V} {H : Hp} {l : Addr} (h : H l = none) : RowsAt K C0 C1 C2 C3 j vals H (upd H l (.lst [])) l 0 [] :=
  ⟨rfl, h, same_upd h, upd_same, fun v z => nomatch z⟩
theorem row_step {K : PySem.W.Frag} {C0 C1 C2 C3 C : Addr} {fs : List Str} {n m j i : Nat} {g : {α : Type} → List α → List α → List α} {ta tk : TA} {w : Str} {D : Ends} {σ : L2.St} {H0 H : Hp} {l : Addr} {rows vals as zs : List V} {u : TS}
    (ea : ∀ H Q, Q as H → ta σ H Q) (ek : ∀ H Q, Q zs H → tk σ H Q) (hσ : σ[3]? = some (some (.ref l))) (hn : as.length = n) (hm : zs.length = m) (hg : (g as zs).length = fs.length) (hz : fs.zip (g as zs) = fs.zip vals)
    (good : Good K C0 C1 C2 C3 C fs j) (hw : wordsOf w = fs ∧ fs.all (asked.contains ·) = true) (hnd : fs.Nodup ∧ w.length ≤ 100) (hlv : fs.length ≤ vals.length) (I : RowsAt K C0 C1 C2 C3 j vals H0 H l i rows) (hlen : i < 1000)
    (next : ∀ H' rows', RowsAt K C0 C1 C2 C3 j vals H0 H' l (i + 1) rows' → u D σ H') :
    tSeq (tDrop (tBM K "list" rAppend (tVar 3) (tCons (tTup (tCons (tErr C fs n m g ta tk) (tCons (tC (.str w)) tNil))) tNil))) u D σ H := by
  refine ⟨_, hσ, .inl ⟨rfl, _, SqL.of I.at_⟩, ea _ _ (ek _ _ ⟨hn, hm, hg, fun e d he hd hne => ⟨(by show 2 ≤ sizeLine; decide), fun t ht => ?_⟩⟩)⟩
  have s1 : Same H (errH H e C d fs (g as zs)) := same_errH he hd
  have s2 : Same H (upd (errH H e C d fs (g as zs)) t (.tup [.ref e, .str w])) := s1.trans (same_upd ht)
  refine ⟨l, rows, _, rfl, rfl, s2 _ _ I.at_, by rw [I.len]; exact Nat.lt_trans hlen (by decide), ?_⟩
  have hlt : l ≠ t := ne_of_none (s1 _ _ I.at_) ht
  have hel : e ≠ l := fun z => by rw [z, I.at_] at he; cases he
  have hdl : d ≠ l := fun z => by rw [z, I.at_] at hd; cases hd
  have sb : SameB l H (upd (upd (errH H e C d fs (g as zs)) t (.tup [.ref e, .str w])) l (.lst (rows ++ [.ref t]))) := fun b o nb q => by
    rw [upd_ne nb]
    exact s2 b o q
  refine next _ (rows ++ [.ref t]) ⟨by rw [List.length_append, I.len]; rfl, I.new, fun b o q => ?_, upd_same, fun v hv => ?_⟩
  · exact sb b o (ne_of_none q I.new) (I.same b o q)
  · rcases List.mem_append.mp hv with hv | hv
    · exact (I.ok v hv).sameB sb I.at_
    · rw [List.mem_singleton.mp hv]
      refine ⟨t, e, C, w, fs, rfl, by rw [upd_ne (Ne.symm hlt)]; exact upd_same, ?_, good, hw.1, hw.2, hlv, hnd.1, hnd.2⟩
      have z : ErrAt (errH H e C d fs (g as zs)) e C (fs.zip (g as zs)) := errAt_new hne
      rw [hz] at z
      have z2 := z.same (same_upd (o := .tup [.ref e, .str w]) ht)
      have k : ∀ {a : Addr} {o : HO}, a ≠ l → upd (errH H e C d fs (g as zs)) t (.tup [.ref e, .str w]) a = some o → upd (upd (errH H e C d fs (g as zs)) t (.tup [.ref e, .str w])) l (.lst (rows ++ [.ref t])) a = some o := fun ha h => by rw [upd_ne ha]; exact h
      rcases z2 with ⟨q, h⟩ | ⟨d', h, h'⟩
      · exact .inl ⟨q, k hel h⟩
      · refine .inr ⟨d', k hel h, k (fun y => ?_) h'⟩
        rw [y] at h'
        have h2 := s2 _ _ I.at_
        rw [h'] at h2
        cases h2
/-- a list of rows, for the base number j -/
def spRows (K : PySem.W.Frag) (C0 C1 C2 C3 : Addr) (j : Nat) : Sp := fun vs H Q _ => ∃ r b g, vs = [r, b, g] ∧ ∀ H' l rows, Same H H' → H l = none → H' l = some (.lst rows) → rows.length ≤ 1000 → (∀ v ∈ rows, RowOk K C0 C1 C2 C3 j [r, b, g] H' v) → Q (.ref l) H'
section
variable {P : Program} {w : World} {K : PySem.W.Frag} {mg : Str → Option Value} {base : Heap} {f : Addr} {fd : FuncData} {C0 C1 C2 C3 : Addr}
abbrev sLimit : Stmt := top 61
theorem scLimit : FnScope ["_law_red", "_law_blue", "_law_green", "_law_found"] ["_law_red", "_law_blue", "_law_green"] (defScope sLimit) := ⟨rfl, rfl, rfl, by decide +kernel, rfl, by decide +kernel, by decide +kernel⟩
theorem ok_Limit (F : FnP K "_law_limit" sLimit f fd) (B : Bl mg) (E : ∀ q ∈ table, ErrX P K mg C0 C1 C2 C3 q.1 q.2.1 q.2.2) : FnOk P w K mg base CX0 1 f fd ["_law_red", "_law_blue", "_law_green"] (spRows K C0 C1 C2 C3 3) := by
  obtain ⟨_, _, _, _, _, _, _, _, T_TooMany⟩ : ErrX P K mg C0 C1 C2 C3 "TooMany" ["what", "limit"] 3 := E ("TooMany", ["what", "limit"], 3) (by simp [table, tableA, tableB])
  refine F.ok scLimit (fun vs H Q E h => ?_) (fun cdv A outer s H vs Q E hr h => ?_)
  · obtain ⟨r, b, g, rfl, _⟩ := h
    rfl
  · obtain ⟨r, b, g, rfl, hQ⟩ := h
    refine ⟨_, PSs.nox (pss_cons (ps_set (i := 3) scLimit.nd rfl (Or.inl rfl) (pe_lst pa_nil))
      (pss_cons (ps_expr (pe_bm PySem.F.plainAttrs_list PySem.F.slot_list_append PySem.F.type_list_append mt_append (pv 3) (pa_cons (pe_tup (pa_cons (pe_err T_TooMany.T T_TooMany.pos (by decide) hr B.super (by rfl) T_TooMany.g (pa_cons (pv 0) (pa_cons (pv 1) pa_nil))) (pa_cons pe_str pa_nil))) pa_nil)))
      (pss_cons (ps_expr (pe_bm PySem.F.plainAttrs_list PySem.F.slot_list_append PySem.F.type_list_append mt_append (pv 3) (pa_cons (pe_tup (pa_cons (pe_errK T_TooMany.T T_TooMany.key hr B.super (by rfl) T_TooMany.g (pk_cons (pv 1) (pk_cons (pv 0) pk_nil))) (pa_cons pe_str pa_nil))) pa_nil)))
      (pss_one (ps_ret (pv 3)))))), ?_⟩
    refine ⟨Nat.zero_le _, fun l h0 => ?_⟩
    have I0 : RowsAt K C0 C1 C2 C3 3 [r, b, g] H (upd H l (.lst [])) l 0 [] := rows_start h0
    refine row_step (vals := [r, b, g]) (as := [r, b]) (zs := []) (fun H Q q => ⟨_, rfl, ⟨_, rfl, q⟩⟩) (fun H Q q => q) rfl rfl rfl rfl rfl T_TooMany.good (by decide +kernel) (by decide +kernel) (by show 2 ≤ 3; decide) I0 (by decide) fun H1 v1 I1 => ?_
    refine row_step (vals := [r, b, g]) (as := []) (zs := [b, r]) (fun H Q q => q) (fun H Q q => ⟨_, rfl, ⟨_, rfl, q⟩⟩) rfl rfl rfl rfl rfl T_TooMany.good (by decide +kernel) (by decide +kernel) (by show 2 ≤ 3; decide) I1 (by decide) fun H2 v2 I2 => ?_
    exact ⟨_, rfl, hQ _ l _ I2.same h0 I2.at_ (by rw [I2.len]; decide) I2.ok⟩
abbrev sMissing : Stmt := top 59
theorem scMissing : FnScope ["_law_red", "_law_blue", "_law_green", "_law_found"] ["_law_red", "_law_blue", "_law_green"] (defScope sMissing) := ⟨rfl, rfl, rfl, by decide +kernel, rfl, by decide +kernel, by decide +kernel⟩
theorem ok_Missing (F : FnP K "_law_missing" sMissing f fd) (B : Bl mg) (E : ∀ q ∈ table, ErrX P K mg C0 C1 C2 C3 q.1 q.2.1 q.2.2) : FnOk P w K mg base CX0 1 f fd ["_law_red", "_law_blue", "_law_green"] (spRows K C0 C1 C2 C3 1) := by
  obtain ⟨_, _, _, _, _, _, _, _, T_UnknownKind⟩ : ErrX P K mg C0 C1 C2 C3 "UnknownKind" ["value"] 1 := E ("UnknownKind", ["value"], 1) (by simp [table, tableA, tableB])
  obtain ⟨_, _, _, _, _, _, _, _, T_UnknownLink⟩ : ErrX P K mg C0 C1 C2 C3 "UnknownLink" ["value"] 1 := E ("UnknownLink", ["value"], 1) (by simp [table, tableA, tableB])
  obtain ⟨_, _, _, _, _, _, _, _, T_UnknownObject⟩ : ErrX P K mg C0 C1 C2 C3 "UnknownObject" ["kind", "number"] 1 := E ("UnknownObject", ["kind", "number"], 1) (by simp [table, tableA, tableB])
  obtain ⟨_, _, _, _, _, _, _, _, T_UnknownTarget⟩ : ErrX P K mg C0 C1 C2 C3 "UnknownTarget" ["field", "number"] 1 := E ("UnknownTarget", ["field", "number"], 1) (by simp [table, tableA, tableB])
  obtain ⟨_, _, _, _, _, _, _, _, T_UnknownSpot⟩ : ErrX P K mg C0 C1 C2 C3 "UnknownSpot" ["value"] 1 := E ("UnknownSpot", ["value"], 1) (by simp [table, tableA, tableB])
  obtain ⟨_, _, _, _, _, _, _, _, T_UnknownPath⟩ : ErrX P K mg C0 C1 C2 C3 "UnknownPath" ["value"] 1 := E ("UnknownPath", ["value"], 1) (by simp [table, tableA, tableB])
  obtain ⟨_, _, _, _, _, _, _, _, T_UnknownFind⟩ : ErrX P K mg C0 C1 C2 C3 "UnknownFind" ["value"] 1 := E ("UnknownFind", ["value"], 1) (by simp [table, tableA, tableB])
  obtain ⟨_, _, _, _, _, _, _, _, T_UnknownName⟩ : ErrX P K mg C0 C1 C2 C3 "UnknownName" ["value"] 1 := E ("UnknownName", ["value"], 1) (by simp [table, tableA, tableB])
  refine F.ok scMissing (fun vs H Q E h => ?_) (fun cdv A outer s H vs Q E hr h => ?_)
  · obtain ⟨r, b, g, rfl, _⟩ := h
    rfl
  · obtain ⟨r, b, g, rfl, hQ⟩ := h
    refine ⟨_, PSs.nox (pss_cons (ps_set (i := 3) scMissing.nd rfl (Or.inl rfl) (pe_lst pa_nil))
      (pss_cons (ps_expr (pe_bm PySem.F.plainAttrs_list PySem.F.slot_list_append PySem.F.type_list_append mt_append (pv 3) (pa_cons (pe_tup (pa_cons (pe_err T_UnknownKind.T T_UnknownKind.pos (by decide) hr B.super (by rfl) T_UnknownKind.g (pa_cons (pv 0) pa_nil)) (pa_cons pe_str pa_nil))) pa_nil)))
      (pss_cons (ps_expr (pe_bm PySem.F.plainAttrs_list PySem.F.slot_list_append PySem.F.type_list_append mt_append (pv 3) (pa_cons (pe_tup (pa_cons (pe_errK T_UnknownKind.T T_UnknownKind.key hr B.super (by rfl) T_UnknownKind.g (pk_cons (pv 0) pk_nil)) (pa_cons pe_str pa_nil))) pa_nil)))
      (pss_cons (ps_expr (pe_bm PySem.F.plainAttrs_list PySem.F.slot_list_append PySem.F.type_list_append mt_append (pv 3) (pa_cons (pe_tup (pa_cons (pe_err T_UnknownLink.T T_UnknownLink.pos (by decide) hr B.super (by rfl) T_UnknownLink.g (pa_cons (pv 0) pa_nil)) (pa_cons pe_str pa_nil))) pa_nil)))
      (pss_cons (ps_expr (pe_bm PySem.F.plainAttrs_list PySem.F.slot_list_append PySem.F.type_list_append mt_append (pv 3) (pa_cons (pe_tup (pa_cons (pe_errK T_UnknownLink.T T_UnknownLink.key hr B.super (by rfl) T_UnknownLink.g (pk_cons (pv 0) pk_nil)) (pa_cons pe_str pa_nil))) pa_nil)))
      (pss_cons (ps_expr (pe_bm PySem.F.plainAttrs_list PySem.F.slot_list_append PySem.F.type_list_append mt_append (pv 3) (pa_cons (pe_tup (pa_cons (pe_err T_UnknownObject.T T_UnknownObject.pos (by decide) hr B.super (by rfl) T_UnknownObject.g (pa_cons (pv 0) (pa_cons (pv 1) pa_nil))) (pa_cons pe_str pa_nil))) pa_nil)))
      (pss_cons (ps_expr (pe_bm PySem.F.plainAttrs_list PySem.F.slot_list_append PySem.F.type_list_append mt_append (pv 3) (pa_cons (pe_tup (pa_cons (pe_errK T_UnknownObject.T T_UnknownObject.key hr B.super (by rfl) T_UnknownObject.g (pk_cons (pv 1) (pk_cons (pv 0) pk_nil))) (pa_cons pe_str pa_nil))) pa_nil)))
      (pss_cons (ps_expr (pe_bm PySem.F.plainAttrs_list PySem.F.slot_list_append PySem.F.type_list_append mt_append (pv 3) (pa_cons (pe_tup (pa_cons (pe_err T_UnknownTarget.T T_UnknownTarget.pos (by decide) hr B.super (by rfl) T_UnknownTarget.g (pa_cons (pv 0) (pa_cons (pv 1) pa_nil))) (pa_cons pe_str pa_nil))) pa_nil)))
      (pss_cons (ps_expr (pe_bm PySem.F.plainAttrs_list PySem.F.slot_list_append PySem.F.type_list_append mt_append (pv 3) (pa_cons (pe_tup (pa_cons (pe_errK T_UnknownTarget.T T_UnknownTarget.key hr B.super (by rfl) T_UnknownTarget.g (pk_cons (pv 1) (pk_cons (pv 0) pk_nil))) (pa_cons pe_str pa_nil))) pa_nil)))
      (pss_cons (ps_expr (pe_bm PySem.F.plainAttrs_list PySem.F.slot_list_append PySem.F.type_list_append mt_append (pv 3) (pa_cons (pe_tup (pa_cons (pe_err T_UnknownSpot.T T_UnknownSpot.pos (by decide) hr B.super (by rfl) T_UnknownSpot.g (pa_cons (pv 0) pa_nil)) (pa_cons pe_str pa_nil))) pa_nil)))
      (pss_cons (ps_expr (pe_bm PySem.F.plainAttrs_list PySem.F.slot_list_append PySem.F.type_list_append mt_append (pv 3) (pa_cons (pe_tup (pa_cons (pe_errK T_UnknownSpot.T T_UnknownSpot.key hr B.super (by rfl) T_UnknownSpot.g (pk_cons (pv 0) pk_nil)) (pa_cons pe_str pa_nil))) pa_nil)))
      (pss_cons (ps_expr (pe_bm PySem.F.plainAttrs_list PySem.F.slot_list_append PySem.F.type_list_append mt_append (pv 3) (pa_cons (pe_tup (pa_cons (pe_err T_UnknownPath.T T_UnknownPath.pos (by decide) hr B.super (by rfl) T_UnknownPath.g (pa_cons (pv 0) pa_nil)) (pa_cons pe_str pa_nil))) pa_nil)))
      (pss_cons (ps_expr (pe_bm PySem.F.plainAttrs_list PySem.F.slot_list_append PySem.F.type_list_append mt_append (pv 3) (pa_cons (pe_tup (pa_cons (pe_errK T_UnknownPath.T T_UnknownPath.key hr B.super (by rfl) T_UnknownPath.g (pk_cons (pv 0) pk_nil)) (pa_cons pe_str pa_nil))) pa_nil)))
      (pss_cons (ps_expr (pe_bm PySem.F.plainAttrs_list PySem.F.slot_list_append PySem.F.type_list_append mt_append (pv 3) (pa_cons (pe_tup (pa_cons (pe_err T_UnknownFind.T T_UnknownFind.pos (by decide) hr B.super (by rfl) T_UnknownFind.g (pa_cons (pv 0) pa_nil)) (pa_cons pe_str pa_nil))) pa_nil)))
      (pss_cons (ps_expr (pe_bm PySem.F.plainAttrs_list PySem.F.slot_list_append PySem.F.type_list_append mt_append (pv 3) (pa_cons (pe_tup (pa_cons (pe_errK T_UnknownFind.T T_UnknownFind.key hr B.super (by rfl) T_UnknownFind.g (pk_cons (pv 0) pk_nil)) (pa_cons pe_str pa_nil))) pa_nil)))
      (pss_cons (ps_expr (pe_bm PySem.F.plainAttrs_list PySem.F.slot_list_append PySem.F.type_list_append mt_append (pv 3) (pa_cons (pe_tup (pa_cons (pe_err T_UnknownName.T T_UnknownName.pos (by decide) hr B.super (by rfl) T_UnknownName.g (pa_cons (pv 0) pa_nil)) (pa_cons pe_str pa_nil))) pa_nil)))
      (pss_cons (ps_expr (pe_bm PySem.F.plainAttrs_list PySem.F.slot_list_append PySem.F.type_list_append mt_append (pv 3) (pa_cons (pe_tup (pa_cons (pe_errK T_UnknownName.T T_UnknownName.key hr B.super (by rfl) T_UnknownName.g (pk_cons (pv 0) pk_nil)) (pa_cons pe_str pa_nil))) pa_nil)))
      (pss_one (ps_ret (pv 3)))))))))))))))))))), ?_⟩
    refine ⟨Nat.zero_le _, fun l h0 => ?_⟩
    have I0 : RowsAt K C0 C1 C2 C3 1 [r, b, g] H (upd H l (.lst [])) l 0 [] := rows_start h0
    refine row_step (vals := [r, b, g]) (as := [r]) (zs := []) (fun H Q q => ⟨_, rfl, q⟩) (fun H Q q => q) rfl rfl rfl rfl rfl T_UnknownKind.good (by decide +kernel) (by decide +kernel) (by show 1 ≤ 3; decide) I0 (by decide) fun H1 v1 I1 => ?_
    refine row_step (vals := [r, b, g]) (as := []) (zs := [r]) (fun H Q q => q) (fun H Q q => ⟨_, rfl, q⟩) rfl rfl rfl rfl rfl T_UnknownKind.good (by decide +kernel) (by decide +kernel) (by show 1 ≤ 3; decide) I1 (by decide) fun H2 v2 I2 => ?_
    refine row_step (vals := [r, b, g]) (as := [r]) (zs := []) (fun H Q q => ⟨_, rfl, q⟩) (fun H Q q => q) rfl rfl rfl rfl rfl T_UnknownLink.good (by decide +kernel) (by decide +kernel) (by show 1 ≤ 3; decide) I2 (by decide) fun H3 v3 I3 => ?_
    refine row_step (vals := [r, b, g]) (as := []) (zs := [r]) (fun H Q q => q) (fun H Q q => ⟨_, rfl, q⟩) rfl rfl rfl rfl rfl T_UnknownLink.good (by decide +kernel) (by decide +kernel) (by show 1 ≤ 3; decide) I3 (by decide) fun H4 v4 I4 => ?_
    refine row_step (vals := [r, b, g]) (as := [r, b]) (zs := []) (fun H Q q => ⟨_, rfl, ⟨_, rfl, q⟩⟩) (fun H Q q => q) rfl rfl rfl rfl rfl T_UnknownObject.good (by decide +kernel) (by decide +kernel) (by show 2 ≤ 3; decide) I4 (by decide) fun H5 v5 I5 => ?_
    refine row_step (vals := [r, b, g]) (as := []) (zs := [b, r]) (fun H Q q => q) (fun H Q q => ⟨_, rfl, ⟨_, rfl, q⟩⟩) rfl rfl rfl rfl rfl T_UnknownObject.good (by decide +kernel) (by decide +kernel) (by show 2 ≤ 3; decide) I5 (by decide) fun H6 v6 I6 => ?_
    refine row_step (vals := [r, b, g]) (as := [r, b]) (zs := []) (fun H Q q => ⟨_, rfl, ⟨_, rfl, q⟩⟩) (fun H Q q => q) rfl rfl rfl rfl rfl T_UnknownTarget.good (by decide +kernel) (by decide +kernel) (by show 2 ≤ 3; decide) I6 (by decide) fun H7 v7 I7 => ?_
    refine row_step (vals := [r, b, g]) (as := []) (zs := [b, r]) (fun H Q q => q) (fun H Q q => ⟨_, rfl, ⟨_, rfl, q⟩⟩) rfl rfl rfl rfl rfl T_UnknownTarget.good (by decide +kernel) (by decide +kernel) (by show 2 ≤ 3; decide) I7 (by decide) fun H8 v8 I8 => ?_
    refine row_step (vals := [r, b, g]) (as := [r]) (zs := []) (fun H Q q => ⟨_, rfl, q⟩) (fun H Q q => q) rfl rfl rfl rfl rfl T_UnknownSpot.good (by decide +kernel) (by decide +kernel) (by show 1 ≤ 3; decide) I8 (by decide) fun H9 v9 I9 => ?_
    refine row_step (vals := [r, b, g]) (as := []) (zs := [r]) (fun H Q q => q) (fun H Q q => ⟨_, rfl, q⟩) rfl rfl rfl rfl rfl T_UnknownSpot.good (by decide +kernel) (by decide +kernel) (by show 1 ≤ 3; decide) I9 (by decide) fun H10 v10 I10 => ?_
    refine row_step (vals := [r, b, g]) (as := [r]) (zs := []) (fun H Q q => ⟨_, rfl, q⟩) (fun H Q q => q) rfl rfl rfl rfl rfl T_UnknownPath.good (by decide +kernel) (by decide +kernel) (by show 1 ≤ 3; decide) I10 (by decide) fun H11 v11 I11 => ?_
    refine row_step (vals := [r, b, g]) (as := []) (zs := [r]) (fun H Q q => q) (fun H Q q => ⟨_, rfl, q⟩) rfl rfl rfl rfl rfl T_UnknownPath.good (by decide +kernel) (by decide +kernel) (by show 1 ≤ 3; decide) I11 (by decide) fun H12 v12 I12 => ?_
    refine row_step (vals := [r, b, g]) (as := [r]) (zs := []) (fun H Q q => ⟨_, rfl, q⟩) (fun H Q q => q) rfl rfl rfl rfl rfl T_UnknownFind.good (by decide +kernel) (by decide +kernel) (by show 1 ≤ 3; decide) I12 (by decide) fun H13 v13 I13 => ?_
    refine row_step (vals := [r, b, g]) (as := []) (zs := [r]) (fun H Q q => q) (fun H Q q => ⟨_, rfl, q⟩) rfl rfl rfl rfl rfl T_UnknownFind.good (by decide +kernel) (by decide +kernel) (by show 1 ≤ 3; decide) I13 (by decide) fun H14 v14 I14 => ?_
    refine row_step (vals := [r, b, g]) (as := [r]) (zs := []) (fun H Q q => ⟨_, rfl, q⟩) (fun H Q q => q) rfl rfl rfl rfl rfl T_UnknownName.good (by decide +kernel) (by decide +kernel) (by show 1 ≤ 3; decide) I14 (by decide) fun H15 v15 I15 => ?_
    refine row_step (vals := [r, b, g]) (as := []) (zs := [r]) (fun H Q q => q) (fun H Q q => ⟨_, rfl, q⟩) rfl rfl rfl rfl rfl T_UnknownName.good (by decide +kernel) (by decide +kernel) (by show 1 ≤ 3; decide) I15 (by decide) fun H16 v16 I16 => ?_
    exact ⟨_, rfl, hQ _ l _ I16.same h0 I16.at_ (by rw [I16.len]; decide) I16.ok⟩
abbrev sState : Stmt := top 60
theorem scState : FnScope ["_law_red", "_law_blue", "_law_green", "_law_found"] ["_law_red", "_law_blue", "_law_green"] (defScope sState) := ⟨rfl, rfl, rfl, by decide +kernel, rfl, by decide +kernel, by decide +kernel⟩
theorem ok_State (F : FnP K "_law_state" sState f fd) (B : Bl mg) (E : ∀ q ∈ table, ErrX P K mg C0 C1 C2 C3 q.1 q.2.1 q.2.2) : FnOk P w K mg base CX0 1 f fd ["_law_red", "_law_blue", "_law_green"] (spRows K C0 C1 C2 C3 2) := by
  obtain ⟨_, _, _, _, _, _, _, _, T_TargetTaken⟩ : ErrX P K mg C0 C1 C2 C3 "TargetTaken" ["field", "number", "by"] 2 := E ("TargetTaken", ["field", "number", "by"], 2) (by simp [table, tableA, tableB])
  obtain ⟨_, _, _, _, _, _, _, _, T_RowRefused⟩ : ErrX P K mg C0 C1 C2 C3 "RowRefused" ["kind", "number"] 2 := E ("RowRefused", ["kind", "number"], 2) (by simp [table, tableA, tableB])
  obtain ⟨_, _, _, _, _, _, _, _, T_LinkRing⟩ : ErrX P K mg C0 C1 C2 C3 "LinkRing" ["ring"] 2 := E ("LinkRing", ["ring"], 2) (by simp [table, tableA, tableB])
  obtain ⟨_, _, _, _, _, _, _, _, T_WordRefused⟩ : ErrX P K mg C0 C1 C2 C3 "WordRefused" ["link", "word"] 2 := E ("WordRefused", ["link", "word"], 2) (by simp [table, tableA, tableB])
  obtain ⟨_, _, _, _, _, _, _, _, T_OtherSchema⟩ : ErrX P K mg C0 C1 C2 C3 "OtherSchema" [] 2 := E ("OtherSchema", [], 2) (by simp [table, tableA, tableB])
  obtain ⟨_, _, _, _, _, _, _, _, T_OtherFinds⟩ : ErrX P K mg C0 C1 C2 C3 "OtherFinds" ["one", "other"] 2 := E ("OtherFinds", ["one", "other"], 2) (by simp [table, tableA, tableB])
  obtain ⟨_, _, _, _, _, _, _, _, T_NameTaken⟩ : ErrX P K mg C0 C1 C2 C3 "NameTaken" ["name"] 2 := E ("NameTaken", ["name"], 2) (by simp [table, tableA, tableB])
  obtain ⟨_, _, _, _, _, _, _, _, T_NotKept⟩ : ErrX P K mg C0 C1 C2 C3 "NotKept" ["kind", "number"] 2 := E ("NotKept", ["kind", "number"], 2) (by simp [table, tableA, tableB])
  obtain ⟨_, _, _, _, _, _, _, _, T_ChangesRefused⟩ : ErrX P K mg C0 C1 C2 C3 "ChangesRefused" ["position"] 2 := E ("ChangesRefused", ["position"], 2) (by simp [table, tableA, tableB])
  obtain ⟨_, _, _, _, _, _, _, _, T_SaveRefused⟩ : ErrX P K mg C0 C1 C2 C3 "SaveRefused" ["first", "second"] 2 := E ("SaveRefused", ["first", "second"], 2) (by simp [table, tableA, tableB])
  obtain ⟨_, _, _, _, _, _, _, _, T_NothingToUndo⟩ : ErrX P K mg C0 C1 C2 C3 "NothingToUndo" [] 2 := E ("NothingToUndo", [], 2) (by simp [table, tableA, tableB])
  obtain ⟨_, _, _, _, _, _, _, _, T_CommandFailed⟩ : ErrX P K mg C0 C1 C2 C3 "CommandFailed" ["position"] 2 := E ("CommandFailed", ["position"], 2) (by simp [table, tableA, tableB])
  refine F.ok scState (fun vs H Q E h => ?_) (fun cdv A outer s H vs Q E hr h => ?_)
  · obtain ⟨r, b, g, rfl, _⟩ := h
    rfl
  · obtain ⟨r, b, g, rfl, hQ⟩ := h
    refine ⟨_, PSs.nox (pss_cons (ps_set (i := 3) scState.nd rfl (Or.inl rfl) (pe_lst pa_nil))
      (pss_cons (ps_expr (pe_bm PySem.F.plainAttrs_list PySem.F.slot_list_append PySem.F.type_list_append mt_append (pv 3) (pa_cons (pe_tup (pa_cons (pe_err T_TargetTaken.T T_TargetTaken.pos (by decide) hr B.super (by rfl) T_TargetTaken.g (pa_cons (pv 0) (pa_cons (pv 1) (pa_cons (pv 2) pa_nil)))) (pa_cons pe_str pa_nil))) pa_nil)))
      (pss_cons (ps_expr (pe_bm PySem.F.plainAttrs_list PySem.F.slot_list_append PySem.F.type_list_append mt_append (pv 3) (pa_cons (pe_tup (pa_cons (pe_errK T_TargetTaken.T T_TargetTaken.key hr B.super (by rfl) T_TargetTaken.g (pk_cons (pv 2) (pk_cons (pv 1) (pk_cons (pv 0) pk_nil)))) (pa_cons pe_str pa_nil))) pa_nil)))
      (pss_cons (ps_expr (pe_bm PySem.F.plainAttrs_list PySem.F.slot_list_append PySem.F.type_list_append mt_append (pv 3) (pa_cons (pe_tup (pa_cons (pe_err T_RowRefused.T T_RowRefused.pos (by decide) hr B.super (by rfl) T_RowRefused.g (pa_cons (pv 0) (pa_cons (pv 1) pa_nil))) (pa_cons pe_str pa_nil))) pa_nil)))
      (pss_cons (ps_expr (pe_bm PySem.F.plainAttrs_list PySem.F.slot_list_append PySem.F.type_list_append mt_append (pv 3) (pa_cons (pe_tup (pa_cons (pe_errK T_RowRefused.T T_RowRefused.key hr B.super (by rfl) T_RowRefused.g (pk_cons (pv 1) (pk_cons (pv 0) pk_nil))) (pa_cons pe_str pa_nil))) pa_nil)))
      (pss_cons (ps_expr (pe_bm PySem.F.plainAttrs_list PySem.F.slot_list_append PySem.F.type_list_append mt_append (pv 3) (pa_cons (pe_tup (pa_cons (pe_err T_LinkRing.T T_LinkRing.pos (by decide) hr B.super (by rfl) T_LinkRing.g (pa_cons (pv 0) pa_nil)) (pa_cons pe_str pa_nil))) pa_nil)))
      (pss_cons (ps_expr (pe_bm PySem.F.plainAttrs_list PySem.F.slot_list_append PySem.F.type_list_append mt_append (pv 3) (pa_cons (pe_tup (pa_cons (pe_errK T_LinkRing.T T_LinkRing.key hr B.super (by rfl) T_LinkRing.g (pk_cons (pv 0) pk_nil)) (pa_cons pe_str pa_nil))) pa_nil)))
      (pss_cons (ps_expr (pe_bm PySem.F.plainAttrs_list PySem.F.slot_list_append PySem.F.type_list_append mt_append (pv 3) (pa_cons (pe_tup (pa_cons (pe_err T_WordRefused.T T_WordRefused.pos (by decide) hr B.super (by rfl) T_WordRefused.g (pa_cons (pv 0) (pa_cons (pv 1) pa_nil))) (pa_cons pe_str pa_nil))) pa_nil)))
      (pss_cons (ps_expr (pe_bm PySem.F.plainAttrs_list PySem.F.slot_list_append PySem.F.type_list_append mt_append (pv 3) (pa_cons (pe_tup (pa_cons (pe_errK T_WordRefused.T T_WordRefused.key hr B.super (by rfl) T_WordRefused.g (pk_cons (pv 1) (pk_cons (pv 0) pk_nil))) (pa_cons pe_str pa_nil))) pa_nil)))
      (pss_cons (ps_expr (pe_bm PySem.F.plainAttrs_list PySem.F.slot_list_append PySem.F.type_list_append mt_append (pv 3) (pa_cons (pe_tup (pa_cons (pe_err0 T_OtherSchema.T T_OtherSchema.pos hr B.super (by rfl) T_OtherSchema.g) (pa_cons pe_str pa_nil))) pa_nil)))
      (pss_cons (ps_expr (pe_bm PySem.F.plainAttrs_list PySem.F.slot_list_append PySem.F.type_list_append mt_append (pv 3) (pa_cons (pe_tup (pa_cons (pe_err T_OtherFinds.T T_OtherFinds.pos (by decide) hr B.super (by rfl) T_OtherFinds.g (pa_cons (pv 0) (pa_cons (pv 1) pa_nil))) (pa_cons pe_str pa_nil))) pa_nil)))
      (pss_cons (ps_expr (pe_bm PySem.F.plainAttrs_list PySem.F.slot_list_append PySem.F.type_list_append mt_append (pv 3) (pa_cons (pe_tup (pa_cons (pe_errK T_OtherFinds.T T_OtherFinds.key hr B.super (by rfl) T_OtherFinds.g (pk_cons (pv 1) (pk_cons (pv 0) pk_nil))) (pa_cons pe_str pa_nil))) pa_nil)))
      (pss_cons (ps_expr (pe_bm PySem.F.plainAttrs_list PySem.F.slot_list_append PySem.F.type_list_append mt_append (pv 3) (pa_cons (pe_tup (pa_cons (pe_err T_NameTaken.T T_NameTaken.pos (by decide) hr B.super (by rfl) T_NameTaken.g (pa_cons (pv 0) pa_nil)) (pa_cons pe_str pa_nil))) pa_nil)))
      (pss_cons (ps_expr (pe_bm PySem.F.plainAttrs_list PySem.F.slot_list_append PySem.F.type_list_append mt_append (pv 3) (pa_cons (pe_tup (pa_cons (pe_errK T_NameTaken.T T_NameTaken.key hr B.super (by rfl) T_NameTaken.g (pk_cons (pv 0) pk_nil)) (pa_cons pe_str pa_nil))) pa_nil)))
      (pss_cons (ps_expr (pe_bm PySem.F.plainAttrs_list PySem.F.slot_list_append PySem.F.type_list_append mt_append (pv 3) (pa_cons (pe_tup (pa_cons (pe_err T_NotKept.T T_NotKept.pos (by decide) hr B.super (by rfl) T_NotKept.g (pa_cons (pv 0) (pa_cons (pv 1) pa_nil))) (pa_cons pe_str pa_nil))) pa_nil)))
      (pss_cons (ps_expr (pe_bm PySem.F.plainAttrs_list PySem.F.slot_list_append PySem.F.type_list_append mt_append (pv 3) (pa_cons (pe_tup (pa_cons (pe_errK T_NotKept.T T_NotKept.key hr B.super (by rfl) T_NotKept.g (pk_cons (pv 1) (pk_cons (pv 0) pk_nil))) (pa_cons pe_str pa_nil))) pa_nil)))
      (pss_cons (ps_expr (pe_bm PySem.F.plainAttrs_list PySem.F.slot_list_append PySem.F.type_list_append mt_append (pv 3) (pa_cons (pe_tup (pa_cons (pe_err T_ChangesRefused.T T_ChangesRefused.pos (by decide) hr B.super (by rfl) T_ChangesRefused.g (pa_cons (pv 0) pa_nil)) (pa_cons pe_str pa_nil))) pa_nil)))
      (pss_cons (ps_expr (pe_bm PySem.F.plainAttrs_list PySem.F.slot_list_append PySem.F.type_list_append mt_append (pv 3) (pa_cons (pe_tup (pa_cons (pe_errK T_ChangesRefused.T T_ChangesRefused.key hr B.super (by rfl) T_ChangesRefused.g (pk_cons (pv 0) pk_nil)) (pa_cons pe_str pa_nil))) pa_nil)))
      (pss_cons (ps_expr (pe_bm PySem.F.plainAttrs_list PySem.F.slot_list_append PySem.F.type_list_append mt_append (pv 3) (pa_cons (pe_tup (pa_cons (pe_err T_SaveRefused.T T_SaveRefused.pos (by decide) hr B.super (by rfl) T_SaveRefused.g (pa_cons (pv 0) (pa_cons (pv 1) pa_nil))) (pa_cons pe_str pa_nil))) pa_nil)))
      (pss_cons (ps_expr (pe_bm PySem.F.plainAttrs_list PySem.F.slot_list_append PySem.F.type_list_append mt_append (pv 3) (pa_cons (pe_tup (pa_cons (pe_errK T_SaveRefused.T T_SaveRefused.key hr B.super (by rfl) T_SaveRefused.g (pk_cons (pv 1) (pk_cons (pv 0) pk_nil))) (pa_cons pe_str pa_nil))) pa_nil)))
      (pss_cons (ps_expr (pe_bm PySem.F.plainAttrs_list PySem.F.slot_list_append PySem.F.type_list_append mt_append (pv 3) (pa_cons (pe_tup (pa_cons (pe_err0 T_NothingToUndo.T T_NothingToUndo.pos hr B.super (by rfl) T_NothingToUndo.g) (pa_cons pe_str pa_nil))) pa_nil)))
      (pss_cons (ps_expr (pe_bm PySem.F.plainAttrs_list PySem.F.slot_list_append PySem.F.type_list_append mt_append (pv 3) (pa_cons (pe_tup (pa_cons (pe_err T_CommandFailed.T T_CommandFailed.pos (by decide) hr B.super (by rfl) T_CommandFailed.g (pa_cons (pv 0) pa_nil)) (pa_cons pe_str pa_nil))) pa_nil)))
      (pss_cons (ps_expr (pe_bm PySem.F.plainAttrs_list PySem.F.slot_list_append PySem.F.type_list_append mt_append (pv 3) (pa_cons (pe_tup (pa_cons (pe_errK T_CommandFailed.T T_CommandFailed.key hr B.super (by rfl) T_CommandFailed.g (pk_cons (pv 0) pk_nil)) (pa_cons pe_str pa_nil))) pa_nil)))
      (pss_one (ps_ret (pv 3)))))))))))))))))))))))))), ?_⟩
    refine ⟨Nat.zero_le _, fun l h0 => ?_⟩
    have I0 : RowsAt K C0 C1 C2 C3 2 [r, b, g] H (upd H l (.lst [])) l 0 [] := rows_start h0
    refine row_step (vals := [r, b, g]) (as := [r, b, g]) (zs := []) (fun H Q q => ⟨_, rfl, ⟨_, rfl, ⟨_, rfl, q⟩⟩⟩) (fun H Q q => q) rfl rfl rfl rfl rfl T_TargetTaken.good (by decide +kernel) (by decide +kernel) (by show 3 ≤ 3; decide) I0 (by decide) fun H1 v1 I1 => ?_
    refine row_step (vals := [r, b, g]) (as := []) (zs := [g, b, r]) (fun H Q q => q) (fun H Q q => ⟨_, rfl, ⟨_, rfl, ⟨_, rfl, q⟩⟩⟩) rfl rfl rfl rfl rfl T_TargetTaken.good (by decide +kernel) (by decide +kernel) (by show 3 ≤ 3; decide) I1 (by decide) fun H2 v2 I2 => ?_
    refine row_step (vals := [r, b, g]) (as := [r, b]) (zs := []) (fun H Q q => ⟨_, rfl, ⟨_, rfl, q⟩⟩) (fun H Q q => q) rfl rfl rfl rfl rfl T_RowRefused.good (by decide +kernel) (by decide +kernel) (by show 2 ≤ 3; decide) I2 (by decide) fun H3 v3 I3 => ?_
    refine row_step (vals := [r, b, g]) (as := []) (zs := [b, r]) (fun H Q q => q) (fun H Q q => ⟨_, rfl, ⟨_, rfl, q⟩⟩) rfl rfl rfl rfl rfl T_RowRefused.good (by decide +kernel) (by decide +kernel) (by show 2 ≤ 3; decide) I3 (by decide) fun H4 v4 I4 => ?_
    refine row_step (vals := [r, b, g]) (as := [r]) (zs := []) (fun H Q q => ⟨_, rfl, q⟩) (fun H Q q => q) rfl rfl rfl rfl rfl T_LinkRing.good (by decide +kernel) (by decide +kernel) (by show 1 ≤ 3; decide) I4 (by decide) fun H5 v5 I5 => ?_
    refine row_step (vals := [r, b, g]) (as := []) (zs := [r]) (fun H Q q => q) (fun H Q q => ⟨_, rfl, q⟩) rfl rfl rfl rfl rfl T_LinkRing.good (by decide +kernel) (by decide +kernel) (by show 1 ≤ 3; decide) I5 (by decide) fun H6 v6 I6 => ?_
    refine row_step (vals := [r, b, g]) (as := [r, b]) (zs := []) (fun H Q q => ⟨_, rfl, ⟨_, rfl, q⟩⟩) (fun H Q q => q) rfl rfl rfl rfl rfl T_WordRefused.good (by decide +kernel) (by decide +kernel) (by show 2 ≤ 3; decide) I6 (by decide) fun H7 v7 I7 => ?_
    refine row_step (vals := [r, b, g]) (as := []) (zs := [b, r]) (fun H Q q => q) (fun H Q q => ⟨_, rfl, ⟨_, rfl, q⟩⟩) rfl rfl rfl rfl rfl T_WordRefused.good (by decide +kernel) (by decide +kernel) (by show 2 ≤ 3; decide) I7 (by decide) fun H8 v8 I8 => ?_
    refine row_step (vals := [r, b, g]) (as := []) (zs := []) (fun H Q q => q) (fun H Q q => q) rfl rfl rfl rfl rfl T_OtherSchema.good (by decide +kernel) (by decide +kernel) (by show 0 ≤ 3; decide) I8 (by decide) fun H9 v9 I9 => ?_
    refine row_step (vals := [r, b, g]) (as := [r, b]) (zs := []) (fun H Q q => ⟨_, rfl, ⟨_, rfl, q⟩⟩) (fun H Q q => q) rfl rfl rfl rfl rfl T_OtherFinds.good (by decide +kernel) (by decide +kernel) (by show 2 ≤ 3; decide) I9 (by decide) fun H10 v10 I10 => ?_
    refine row_step (vals := [r, b, g]) (as := []) (zs := [b, r]) (fun H Q q => q) (fun H Q q => ⟨_, rfl, ⟨_, rfl, q⟩⟩) rfl rfl rfl rfl rfl T_OtherFinds.good (by decide +kernel) (by decide +kernel) (by show 2 ≤ 3; decide) I10 (by decide) fun H11 v11 I11 => ?_
    refine row_step (vals := [r, b, g]) (as := [r]) (zs := []) (fun H Q q => ⟨_, rfl, q⟩) (fun H Q q => q) rfl rfl rfl rfl rfl T_NameTaken.good (by decide +kernel) (by decide +kernel) (by show 1 ≤ 3; decide) I11 (by decide) fun H12 v12 I12 => ?_
    refine row_step (vals := [r, b, g]) (as := []) (zs := [r]) (fun H Q q => q) (fun H Q q => ⟨_, rfl, q⟩) rfl rfl rfl rfl rfl T_NameTaken.good (by decide +kernel) (by decide +kernel) (by show 1 ≤ 3; decide) I12 (by decide) fun H13 v13 I13 => ?_
    refine row_step (vals := [r, b, g]) (as := [r, b]) (zs := []) (fun H Q q => ⟨_, rfl, ⟨_, rfl, q⟩⟩) (fun H Q q => q) rfl rfl rfl rfl rfl T_NotKept.good (by decide +kernel) (by decide +kernel) (by show 2 ≤ 3; decide) I13 (by decide) fun H14 v14 I14 => ?_
    refine row_step (vals := [r, b, g]) (as := []) (zs := [b, r]) (fun H Q q => q) (fun H Q q => ⟨_, rfl, ⟨_, rfl, q⟩⟩) rfl rfl rfl rfl rfl T_NotKept.good (by decide +kernel) (by decide +kernel) (by show 2 ≤ 3; decide) I14 (by decide) fun H15 v15 I15 => ?_
    refine row_step (vals := [r, b, g]) (as := [r]) (zs := []) (fun H Q q => ⟨_, rfl, q⟩) (fun H Q q => q) rfl rfl rfl rfl rfl T_ChangesRefused.good (by decide +kernel) (by decide +kernel) (by show 1 ≤ 3; decide) I15 (by decide) fun H16 v16 I16 => ?_
    refine row_step (vals := [r, b, g]) (as := []) (zs := [r]) (fun H Q q => q) (fun H Q q => ⟨_, rfl, q⟩) rfl rfl rfl rfl rfl T_ChangesRefused.good (by decide +kernel) (by decide +kernel) (by show 1 ≤ 3; decide) I16 (by decide) fun H17 v17 I17 => ?_
    refine row_step (vals := [r, b, g]) (as := [r, b]) (zs := []) (fun H Q q => ⟨_, rfl, ⟨_, rfl, q⟩⟩) (fun H Q q => q) rfl rfl rfl rfl rfl T_SaveRefused.good (by decide +kernel) (by decide +kernel) (by show 2 ≤ 3; decide) I17 (by decide) fun H18 v18 I18 => ?_
    refine row_step (vals := [r, b, g]) (as := []) (zs := [b, r]) (fun H Q q => q) (fun H Q q => ⟨_, rfl, ⟨_, rfl, q⟩⟩) rfl rfl rfl rfl rfl T_SaveRefused.good (by decide +kernel) (by decide +kernel) (by show 2 ≤ 3; decide) I18 (by decide) fun H19 v19 I19 => ?_
    refine row_step (vals := [r, b, g]) (as := []) (zs := []) (fun H Q q => q) (fun H Q q => q) rfl rfl rfl rfl rfl T_NothingToUndo.good (by decide +kernel) (by decide +kernel) (by show 0 ≤ 3; decide) I19 (by decide) fun H20 v20 I20 => ?_
    refine row_step (vals := [r, b, g]) (as := [r]) (zs := []) (fun H Q q => ⟨_, rfl, q⟩) (fun H Q q => q) rfl rfl rfl rfl rfl T_CommandFailed.good (by decide +kernel) (by decide +kernel) (by show 1 ≤ 3; decide) I20 (by decide) fun H21 v21 I21 => ?_
    refine row_step (vals := [r, b, g]) (as := []) (zs := [r]) (fun H Q q => q) (fun H Q q => ⟨_, rfl, q⟩) rfl rfl rfl rfl rfl T_CommandFailed.good (by decide +kernel) (by decide +kernel) (by show 1 ≤ 3; decide) I21 (by decide) fun H22 v22 I22 => ?_
    exact ⟨_, rfl, hQ _ l _ I22.same h0 I22.at_ (by rw [I22.len]; decide) I22.ok⟩
abbrev sToo : Stmt := top 58
theorem scToo : FnScope ["_law_red", "_law_blue", "_law_green", "_law_found"] ["_law_red", "_law_blue", "_law_green"] (defScope sToo) := ⟨rfl, rfl, rfl, by decide +kernel, rfl, by decide +kernel, by decide +kernel⟩
theorem ok_Too (F : FnP K "_law_fetch_too" sToo f fd) (B : Bl mg) (E : ∀ q ∈ table, ErrX P K mg C0 C1 C2 C3 q.1 q.2.1 q.2.2) : FnOk P w K mg base CX0 1 f fd ["_law_red", "_law_blue", "_law_green"] (spRows K C0 C1 C2 C3 0) := by
  obtain ⟨_, _, _, _, _, _, _, _, T_InvalidRoute⟩ : ErrX P K mg C0 C1 C2 C3 "InvalidRoute" ["value"] 0 := E ("InvalidRoute", ["value"], 0) (by simp [table, tableA, tableB])
  obtain ⟨_, _, _, _, _, _, _, _, T_InvalidPlace⟩ : ErrX P K mg C0 C1 C2 C3 "InvalidPlace" ["value"] 0 := E ("InvalidPlace", ["value"], 0) (by simp [table, tableA, tableB])
  obtain ⟨_, _, _, _, _, _, _, _, T_InvalidPlaces⟩ : ErrX P K mg C0 C1 C2 C3 "InvalidPlaces" ["value"] 0 := E ("InvalidPlaces", ["value"], 0) (by simp [table, tableA, tableB])
  obtain ⟨_, _, _, _, _, _, _, _, T_InvalidSizeName⟩ : ErrX P K mg C0 C1 C2 C3 "InvalidSizeName" ["value"] 0 := E ("InvalidSizeName", ["value"], 0) (by simp [table, tableA, tableB])
  obtain ⟨_, _, _, _, _, _, _, _, T_InvalidSize⟩ : ErrX P K mg C0 C1 C2 C3 "InvalidSize" ["value"] 0 := E ("InvalidSize", ["value"], 0) (by simp [table, tableA, tableB])
  obtain ⟨_, _, _, _, _, _, _, _, T_InvalidSizes⟩ : ErrX P K mg C0 C1 C2 C3 "InvalidSizes" ["value"] 0 := E ("InvalidSizes", ["value"], 0) (by simp [table, tableA, tableB])
  obtain ⟨_, _, _, _, _, _, _, _, T_InvalidNumber⟩ : ErrX P K mg C0 C1 C2 C3 "InvalidNumber" ["value"] 0 := E ("InvalidNumber", ["value"], 0) (by simp [table, tableA, tableB])
  obtain ⟨_, _, _, _, _, _, _, _, T_InvalidSum⟩ : ErrX P K mg C0 C1 C2 C3 "InvalidSum" ["value"] 0 := E ("InvalidSum", ["value"], 0) (by simp [table, tableA, tableB])
  obtain ⟨_, _, _, _, _, _, _, _, T_InvalidChange⟩ : ErrX P K mg C0 C1 C2 C3 "InvalidChange" ["position"] 0 := E ("InvalidChange", ["position"], 0) (by simp [table, tableA, tableB])
  obtain ⟨_, _, _, _, _, _, _, _, T_InvalidValue⟩ : ErrX P K mg C0 C1 C2 C3 "InvalidValue" ["value"] 0 := E ("InvalidValue", ["value"], 0) (by simp [table, tableA, tableB])
  obtain ⟨_, _, _, _, _, _, _, _, T_InvalidText⟩ : ErrX P K mg C0 C1 C2 C3 "InvalidText" ["line"] 0 := E ("InvalidText", ["line"], 0) (by simp [table, tableA, tableB])
  obtain ⟨_, _, _, _, _, _, _, _, T_InvalidClaim⟩ : ErrX P K mg C0 C1 C2 C3 "InvalidClaim" ["value"] 0 := E ("InvalidClaim", ["value"], 0) (by simp [table, tableA, tableB])
  obtain ⟨_, _, _, _, _, _, _, _, T_InvalidCommand⟩ : ErrX P K mg C0 C1 C2 C3 "InvalidCommand" ["value"] 0 := E ("InvalidCommand", ["value"], 0) (by simp [table, tableA, tableB])
  refine F.ok scToo (fun vs H Q E h => ?_) (fun cdv A outer s H vs Q E hr h => ?_)
  · obtain ⟨r, b, g, rfl, _⟩ := h
    rfl
  · obtain ⟨r, b, g, rfl, hQ⟩ := h
    refine ⟨_, PSs.nox (pss_cons (ps_set (i := 3) scToo.nd rfl (Or.inl rfl) (pe_lst pa_nil))
      (pss_cons (ps_expr (pe_bm PySem.F.plainAttrs_list PySem.F.slot_list_append PySem.F.type_list_append mt_append (pv 3) (pa_cons (pe_tup (pa_cons (pe_err T_InvalidRoute.T T_InvalidRoute.pos (by decide) hr B.super (by rfl) T_InvalidRoute.g (pa_cons (pv 0) pa_nil)) (pa_cons pe_str pa_nil))) pa_nil)))
      (pss_cons (ps_expr (pe_bm PySem.F.plainAttrs_list PySem.F.slot_list_append PySem.F.type_list_append mt_append (pv 3) (pa_cons (pe_tup (pa_cons (pe_errK T_InvalidRoute.T T_InvalidRoute.key hr B.super (by rfl) T_InvalidRoute.g (pk_cons (pv 0) pk_nil)) (pa_cons pe_str pa_nil))) pa_nil)))
      (pss_cons (ps_expr (pe_bm PySem.F.plainAttrs_list PySem.F.slot_list_append PySem.F.type_list_append mt_append (pv 3) (pa_cons (pe_tup (pa_cons (pe_err T_InvalidPlace.T T_InvalidPlace.pos (by decide) hr B.super (by rfl) T_InvalidPlace.g (pa_cons (pv 0) pa_nil)) (pa_cons pe_str pa_nil))) pa_nil)))
      (pss_cons (ps_expr (pe_bm PySem.F.plainAttrs_list PySem.F.slot_list_append PySem.F.type_list_append mt_append (pv 3) (pa_cons (pe_tup (pa_cons (pe_errK T_InvalidPlace.T T_InvalidPlace.key hr B.super (by rfl) T_InvalidPlace.g (pk_cons (pv 0) pk_nil)) (pa_cons pe_str pa_nil))) pa_nil)))
      (pss_cons (ps_expr (pe_bm PySem.F.plainAttrs_list PySem.F.slot_list_append PySem.F.type_list_append mt_append (pv 3) (pa_cons (pe_tup (pa_cons (pe_err T_InvalidPlaces.T T_InvalidPlaces.pos (by decide) hr B.super (by rfl) T_InvalidPlaces.g (pa_cons (pv 0) pa_nil)) (pa_cons pe_str pa_nil))) pa_nil)))
      (pss_cons (ps_expr (pe_bm PySem.F.plainAttrs_list PySem.F.slot_list_append PySem.F.type_list_append mt_append (pv 3) (pa_cons (pe_tup (pa_cons (pe_errK T_InvalidPlaces.T T_InvalidPlaces.key hr B.super (by rfl) T_InvalidPlaces.g (pk_cons (pv 0) pk_nil)) (pa_cons pe_str pa_nil))) pa_nil)))
      (pss_cons (ps_expr (pe_bm PySem.F.plainAttrs_list PySem.F.slot_list_append PySem.F.type_list_append mt_append (pv 3) (pa_cons (pe_tup (pa_cons (pe_err T_InvalidSizeName.T T_InvalidSizeName.pos (by decide) hr B.super (by rfl) T_InvalidSizeName.g (pa_cons (pv 0) pa_nil)) (pa_cons pe_str pa_nil))) pa_nil)))
      (pss_cons (ps_expr (pe_bm PySem.F.plainAttrs_list PySem.F.slot_list_append PySem.F.type_list_append mt_append (pv 3) (pa_cons (pe_tup (pa_cons (pe_errK T_InvalidSizeName.T T_InvalidSizeName.key hr B.super (by rfl) T_InvalidSizeName.g (pk_cons (pv 0) pk_nil)) (pa_cons pe_str pa_nil))) pa_nil)))
      (pss_cons (ps_expr (pe_bm PySem.F.plainAttrs_list PySem.F.slot_list_append PySem.F.type_list_append mt_append (pv 3) (pa_cons (pe_tup (pa_cons (pe_err T_InvalidSize.T T_InvalidSize.pos (by decide) hr B.super (by rfl) T_InvalidSize.g (pa_cons (pv 0) pa_nil)) (pa_cons pe_str pa_nil))) pa_nil)))
      (pss_cons (ps_expr (pe_bm PySem.F.plainAttrs_list PySem.F.slot_list_append PySem.F.type_list_append mt_append (pv 3) (pa_cons (pe_tup (pa_cons (pe_errK T_InvalidSize.T T_InvalidSize.key hr B.super (by rfl) T_InvalidSize.g (pk_cons (pv 0) pk_nil)) (pa_cons pe_str pa_nil))) pa_nil)))
      (pss_cons (ps_expr (pe_bm PySem.F.plainAttrs_list PySem.F.slot_list_append PySem.F.type_list_append mt_append (pv 3) (pa_cons (pe_tup (pa_cons (pe_err T_InvalidSizes.T T_InvalidSizes.pos (by decide) hr B.super (by rfl) T_InvalidSizes.g (pa_cons (pv 0) pa_nil)) (pa_cons pe_str pa_nil))) pa_nil)))
      (pss_cons (ps_expr (pe_bm PySem.F.plainAttrs_list PySem.F.slot_list_append PySem.F.type_list_append mt_append (pv 3) (pa_cons (pe_tup (pa_cons (pe_errK T_InvalidSizes.T T_InvalidSizes.key hr B.super (by rfl) T_InvalidSizes.g (pk_cons (pv 0) pk_nil)) (pa_cons pe_str pa_nil))) pa_nil)))
      (pss_cons (ps_expr (pe_bm PySem.F.plainAttrs_list PySem.F.slot_list_append PySem.F.type_list_append mt_append (pv 3) (pa_cons (pe_tup (pa_cons (pe_err T_InvalidNumber.T T_InvalidNumber.pos (by decide) hr B.super (by rfl) T_InvalidNumber.g (pa_cons (pv 0) pa_nil)) (pa_cons pe_str pa_nil))) pa_nil)))
      (pss_cons (ps_expr (pe_bm PySem.F.plainAttrs_list PySem.F.slot_list_append PySem.F.type_list_append mt_append (pv 3) (pa_cons (pe_tup (pa_cons (pe_errK T_InvalidNumber.T T_InvalidNumber.key hr B.super (by rfl) T_InvalidNumber.g (pk_cons (pv 0) pk_nil)) (pa_cons pe_str pa_nil))) pa_nil)))
      (pss_cons (ps_expr (pe_bm PySem.F.plainAttrs_list PySem.F.slot_list_append PySem.F.type_list_append mt_append (pv 3) (pa_cons (pe_tup (pa_cons (pe_err T_InvalidSum.T T_InvalidSum.pos (by decide) hr B.super (by rfl) T_InvalidSum.g (pa_cons (pv 0) pa_nil)) (pa_cons pe_str pa_nil))) pa_nil)))
      (pss_cons (ps_expr (pe_bm PySem.F.plainAttrs_list PySem.F.slot_list_append PySem.F.type_list_append mt_append (pv 3) (pa_cons (pe_tup (pa_cons (pe_errK T_InvalidSum.T T_InvalidSum.key hr B.super (by rfl) T_InvalidSum.g (pk_cons (pv 0) pk_nil)) (pa_cons pe_str pa_nil))) pa_nil)))
      (pss_cons (ps_expr (pe_bm PySem.F.plainAttrs_list PySem.F.slot_list_append PySem.F.type_list_append mt_append (pv 3) (pa_cons (pe_tup (pa_cons (pe_err T_InvalidChange.T T_InvalidChange.pos (by decide) hr B.super (by rfl) T_InvalidChange.g (pa_cons (pv 0) pa_nil)) (pa_cons pe_str pa_nil))) pa_nil)))
      (pss_cons (ps_expr (pe_bm PySem.F.plainAttrs_list PySem.F.slot_list_append PySem.F.type_list_append mt_append (pv 3) (pa_cons (pe_tup (pa_cons (pe_errK T_InvalidChange.T T_InvalidChange.key hr B.super (by rfl) T_InvalidChange.g (pk_cons (pv 0) pk_nil)) (pa_cons pe_str pa_nil))) pa_nil)))
      (pss_cons (ps_expr (pe_bm PySem.F.plainAttrs_list PySem.F.slot_list_append PySem.F.type_list_append mt_append (pv 3) (pa_cons (pe_tup (pa_cons (pe_err T_InvalidValue.T T_InvalidValue.pos (by decide) hr B.super (by rfl) T_InvalidValue.g (pa_cons (pv 0) pa_nil)) (pa_cons pe_str pa_nil))) pa_nil)))
      (pss_cons (ps_expr (pe_bm PySem.F.plainAttrs_list PySem.F.slot_list_append PySem.F.type_list_append mt_append (pv 3) (pa_cons (pe_tup (pa_cons (pe_errK T_InvalidValue.T T_InvalidValue.key hr B.super (by rfl) T_InvalidValue.g (pk_cons (pv 0) pk_nil)) (pa_cons pe_str pa_nil))) pa_nil)))
      (pss_cons (ps_expr (pe_bm PySem.F.plainAttrs_list PySem.F.slot_list_append PySem.F.type_list_append mt_append (pv 3) (pa_cons (pe_tup (pa_cons (pe_err T_InvalidText.T T_InvalidText.pos (by decide) hr B.super (by rfl) T_InvalidText.g (pa_cons (pv 0) pa_nil)) (pa_cons pe_str pa_nil))) pa_nil)))
      (pss_cons (ps_expr (pe_bm PySem.F.plainAttrs_list PySem.F.slot_list_append PySem.F.type_list_append mt_append (pv 3) (pa_cons (pe_tup (pa_cons (pe_errK T_InvalidText.T T_InvalidText.key hr B.super (by rfl) T_InvalidText.g (pk_cons (pv 0) pk_nil)) (pa_cons pe_str pa_nil))) pa_nil)))
      (pss_cons (ps_expr (pe_bm PySem.F.plainAttrs_list PySem.F.slot_list_append PySem.F.type_list_append mt_append (pv 3) (pa_cons (pe_tup (pa_cons (pe_err T_InvalidClaim.T T_InvalidClaim.pos (by decide) hr B.super (by rfl) T_InvalidClaim.g (pa_cons (pv 0) pa_nil)) (pa_cons pe_str pa_nil))) pa_nil)))
      (pss_cons (ps_expr (pe_bm PySem.F.plainAttrs_list PySem.F.slot_list_append PySem.F.type_list_append mt_append (pv 3) (pa_cons (pe_tup (pa_cons (pe_errK T_InvalidClaim.T T_InvalidClaim.key hr B.super (by rfl) T_InvalidClaim.g (pk_cons (pv 0) pk_nil)) (pa_cons pe_str pa_nil))) pa_nil)))
      (pss_cons (ps_expr (pe_bm PySem.F.plainAttrs_list PySem.F.slot_list_append PySem.F.type_list_append mt_append (pv 3) (pa_cons (pe_tup (pa_cons (pe_err T_InvalidCommand.T T_InvalidCommand.pos (by decide) hr B.super (by rfl) T_InvalidCommand.g (pa_cons (pv 0) pa_nil)) (pa_cons pe_str pa_nil))) pa_nil)))
      (pss_cons (ps_expr (pe_bm PySem.F.plainAttrs_list PySem.F.slot_list_append PySem.F.type_list_append mt_append (pv 3) (pa_cons (pe_tup (pa_cons (pe_errK T_InvalidCommand.T T_InvalidCommand.key hr B.super (by rfl) T_InvalidCommand.g (pk_cons (pv 0) pk_nil)) (pa_cons pe_str pa_nil))) pa_nil)))
      (pss_one (ps_ret (pv 3)))))))))))))))))))))))))))))), ?_⟩
    refine ⟨Nat.zero_le _, fun l h0 => ?_⟩
    have I0 : RowsAt K C0 C1 C2 C3 0 [r, b, g] H (upd H l (.lst [])) l 0 [] := rows_start h0
    refine row_step (vals := [r, b, g]) (as := [r]) (zs := []) (fun H Q q => ⟨_, rfl, q⟩) (fun H Q q => q) rfl rfl rfl rfl rfl T_InvalidRoute.good (by decide +kernel) (by decide +kernel) (by show 1 ≤ 3; decide) I0 (by decide) fun H1 v1 I1 => ?_
    refine row_step (vals := [r, b, g]) (as := []) (zs := [r]) (fun H Q q => q) (fun H Q q => ⟨_, rfl, q⟩) rfl rfl rfl rfl rfl T_InvalidRoute.good (by decide +kernel) (by decide +kernel) (by show 1 ≤ 3; decide) I1 (by decide) fun H2 v2 I2 => ?_
    refine row_step (vals := [r, b, g]) (as := [r]) (zs := []) (fun H Q q => ⟨_, rfl, q⟩) (fun H Q q => q) rfl rfl rfl rfl rfl T_InvalidPlace.good (by decide +kernel) (by decide +kernel) (by show 1 ≤ 3; decide) I2 (by decide) fun H3 v3 I3 => ?_
    refine row_step (vals := [r, b, g]) (as := []) (zs := [r]) (fun H Q q => q) (fun H Q q => ⟨_, rfl, q⟩) rfl rfl rfl rfl rfl T_InvalidPlace.good (by decide +kernel) (by decide +kernel) (by show 1 ≤ 3; decide) I3 (by decide) fun H4 v4 I4 => ?_
    refine row_step (vals := [r, b, g]) (as := [r]) (zs := []) (fun H Q q => ⟨_, rfl, q⟩) (fun H Q q => q) rfl rfl rfl rfl rfl T_InvalidPlaces.good (by decide +kernel) (by decide +kernel) (by show 1 ≤ 3; decide) I4 (by decide) fun H5 v5 I5 => ?_
    refine row_step (vals := [r, b, g]) (as := []) (zs := [r]) (fun H Q q => q) (fun H Q q => ⟨_, rfl, q⟩) rfl rfl rfl rfl rfl T_InvalidPlaces.good (by decide +kernel) (by decide +kernel) (by show 1 ≤ 3; decide) I5 (by decide) fun H6 v6 I6 => ?_
    refine row_step (vals := [r, b, g]) (as := [r]) (zs := []) (fun H Q q => ⟨_, rfl, q⟩) (fun H Q q => q) rfl rfl rfl rfl rfl T_InvalidSizeName.good (by decide +kernel) (by decide +kernel) (by show 1 ≤ 3; decide) I6 (by decide) fun H7 v7 I7 => ?_
    refine row_step (vals := [r, b, g]) (as := []) (zs := [r]) (fun H Q q => q) (fun H Q q => ⟨_, rfl, q⟩) rfl rfl rfl rfl rfl T_InvalidSizeName.good (by decide +kernel) (by decide +kernel) (by show 1 ≤ 3; decide) I7 (by decide) fun H8 v8 I8 => ?_
    refine row_step (vals := [r, b, g]) (as := [r]) (zs := []) (fun H Q q => ⟨_, rfl, q⟩) (fun H Q q => q) rfl rfl rfl rfl rfl T_InvalidSize.good (by decide +kernel) (by decide +kernel) (by show 1 ≤ 3; decide) I8 (by decide) fun H9 v9 I9 => ?_
    refine row_step (vals := [r, b, g]) (as := []) (zs := [r]) (fun H Q q => q) (fun H Q q => ⟨_, rfl, q⟩) rfl rfl rfl rfl rfl T_InvalidSize.good (by decide +kernel) (by decide +kernel) (by show 1 ≤ 3; decide) I9 (by decide) fun H10 v10 I10 => ?_
    refine row_step (vals := [r, b, g]) (as := [r]) (zs := []) (fun H Q q => ⟨_, rfl, q⟩) (fun H Q q => q) rfl rfl rfl rfl rfl T_InvalidSizes.good (by decide +kernel) (by decide +kernel) (by show 1 ≤ 3; decide) I10 (by decide) fun H11 v11 I11 => ?_
    refine row_step (vals := [r, b, g]) (as := []) (zs := [r]) (fun H Q q => q) (fun H Q q => ⟨_, rfl, q⟩) rfl rfl rfl rfl rfl T_InvalidSizes.good (by decide +kernel) (by decide +kernel) (by show 1 ≤ 3; decide) I11 (by decide) fun H12 v12 I12 => ?_
    refine row_step (vals := [r, b, g]) (as := [r]) (zs := []) (fun H Q q => ⟨_, rfl, q⟩) (fun H Q q => q) rfl rfl rfl rfl rfl T_InvalidNumber.good (by decide +kernel) (by decide +kernel) (by show 1 ≤ 3; decide) I12 (by decide) fun H13 v13 I13 => ?_
    refine row_step (vals := [r, b, g]) (as := []) (zs := [r]) (fun H Q q => q) (fun H Q q => ⟨_, rfl, q⟩) rfl rfl rfl rfl rfl T_InvalidNumber.good (by decide +kernel) (by decide +kernel) (by show 1 ≤ 3; decide) I13 (by decide) fun H14 v14 I14 => ?_
    refine row_step (vals := [r, b, g]) (as := [r]) (zs := []) (fun H Q q => ⟨_, rfl, q⟩) (fun H Q q => q) rfl rfl rfl rfl rfl T_InvalidSum.good (by decide +kernel) (by decide +kernel) (by show 1 ≤ 3; decide) I14 (by decide) fun H15 v15 I15 => ?_
    refine row_step (vals := [r, b, g]) (as := []) (zs := [r]) (fun H Q q => q) (fun H Q q => ⟨_, rfl, q⟩) rfl rfl rfl rfl rfl T_InvalidSum.good (by decide +kernel) (by decide +kernel) (by show 1 ≤ 3; decide) I15 (by decide) fun H16 v16 I16 => ?_
    refine row_step (vals := [r, b, g]) (as := [r]) (zs := []) (fun H Q q => ⟨_, rfl, q⟩) (fun H Q q => q) rfl rfl rfl rfl rfl T_InvalidChange.good (by decide +kernel) (by decide +kernel) (by show 1 ≤ 3; decide) I16 (by decide) fun H17 v17 I17 => ?_
    refine row_step (vals := [r, b, g]) (as := []) (zs := [r]) (fun H Q q => q) (fun H Q q => ⟨_, rfl, q⟩) rfl rfl rfl rfl rfl T_InvalidChange.good (by decide +kernel) (by decide +kernel) (by show 1 ≤ 3; decide) I17 (by decide) fun H18 v18 I18 => ?_
    refine row_step (vals := [r, b, g]) (as := [r]) (zs := []) (fun H Q q => ⟨_, rfl, q⟩) (fun H Q q => q) rfl rfl rfl rfl rfl T_InvalidValue.good (by decide +kernel) (by decide +kernel) (by show 1 ≤ 3; decide) I18 (by decide) fun H19 v19 I19 => ?_
    refine row_step (vals := [r, b, g]) (as := []) (zs := [r]) (fun H Q q => q) (fun H Q q => ⟨_, rfl, q⟩) rfl rfl rfl rfl rfl T_InvalidValue.good (by decide +kernel) (by decide +kernel) (by show 1 ≤ 3; decide) I19 (by decide) fun H20 v20 I20 => ?_
    refine row_step (vals := [r, b, g]) (as := [r]) (zs := []) (fun H Q q => ⟨_, rfl, q⟩) (fun H Q q => q) rfl rfl rfl rfl rfl T_InvalidText.good (by decide +kernel) (by decide +kernel) (by show 1 ≤ 3; decide) I20 (by decide) fun H21 v21 I21 => ?_
    refine row_step (vals := [r, b, g]) (as := []) (zs := [r]) (fun H Q q => q) (fun H Q q => ⟨_, rfl, q⟩) rfl rfl rfl rfl rfl T_InvalidText.good (by decide +kernel) (by decide +kernel) (by show 1 ≤ 3; decide) I21 (by decide) fun H22 v22 I22 => ?_
    refine row_step (vals := [r, b, g]) (as := [r]) (zs := []) (fun H Q q => ⟨_, rfl, q⟩) (fun H Q q => q) rfl rfl rfl rfl rfl T_InvalidClaim.good (by decide +kernel) (by decide +kernel) (by show 1 ≤ 3; decide) I22 (by decide) fun H23 v23 I23 => ?_
    refine row_step (vals := [r, b, g]) (as := []) (zs := [r]) (fun H Q q => q) (fun H Q q => ⟨_, rfl, q⟩) rfl rfl rfl rfl rfl T_InvalidClaim.good (by decide +kernel) (by decide +kernel) (by show 1 ≤ 3; decide) I23 (by decide) fun H24 v24 I24 => ?_
    refine row_step (vals := [r, b, g]) (as := [r]) (zs := []) (fun H Q q => ⟨_, rfl, q⟩) (fun H Q q => q) rfl rfl rfl rfl rfl T_InvalidCommand.good (by decide +kernel) (by decide +kernel) (by show 1 ≤ 3; decide) I24 (by decide) fun H25 v25 I25 => ?_
    refine row_step (vals := [r, b, g]) (as := []) (zs := [r]) (fun H Q q => q) (fun H Q q => ⟨_, rfl, q⟩) rfl rfl rfl rfl rfl T_InvalidCommand.good (by decide +kernel) (by decide +kernel) (by show 1 ≤ 3; decide) I25 (by decide) fun H26 v26 I26 => ?_
    exact ⟨_, rfl, hQ _ l _ I26.same h0 I26.at_ (by rw [I26.len]; decide) I26.ok⟩
abbrev sFetch : Stmt := top 57
theorem scFetch : FnScope ["_law_red", "_law_blue", "_law_green", "_law_found"] ["_law_red", "_law_blue", "_law_green"] (defScope sFetch) := ⟨rfl, rfl, rfl, by decide +kernel, rfl, by decide +kernel, by decide +kernel⟩
theorem ok_Fetch (F : FnP K "_law_fetch" sFetch f fd) (B : Bl mg) (E : ∀ q ∈ table, ErrX P K mg C0 C1 C2 C3 q.1 q.2.1 q.2.2) : FnOk P w K mg base CX0 1 f fd ["_law_red", "_law_blue", "_law_green"] (spRows K C0 C1 C2 C3 0) := by
  obtain ⟨_, _, _, _, _, _, _, _, T_InvalidKinds⟩ : ErrX P K mg C0 C1 C2 C3 "InvalidKinds" ["position"] 0 := E ("InvalidKinds", ["position"], 0) (by simp [table, tableA, tableB])
  obtain ⟨_, _, _, _, _, _, _, _, T_InvalidFields⟩ : ErrX P K mg C0 C1 C2 C3 "InvalidFields" ["name"] 0 := E ("InvalidFields", ["name"], 0) (by simp [table, tableA, tableB])
  obtain ⟨_, _, _, _, _, _, _, _, T_InvalidFlags⟩ : ErrX P K mg C0 C1 C2 C3 "InvalidFlags" ["name"] 0 := E ("InvalidFlags", ["name"], 0) (by simp [table, tableA, tableB])
  obtain ⟨_, _, _, _, _, _, _, _, T_InvalidSchema⟩ : ErrX P K mg C0 C1 C2 C3 "InvalidSchema" ["value"] 0 := E ("InvalidSchema", ["value"], 0) (by simp [table, tableA, tableB])
  obtain ⟨_, _, _, _, _, _, _, _, T_InvalidId⟩ : ErrX P K mg C0 C1 C2 C3 "InvalidId" ["value"] 0 := E ("InvalidId", ["value"], 0) (by simp [table, tableA, tableB])
  obtain ⟨_, _, _, _, _, _, _, _, T_InvalidRow⟩ : ErrX P K mg C0 C1 C2 C3 "InvalidRow" ["name"] 0 := E ("InvalidRow", ["name"], 0) (by simp [table, tableA, tableB])
  obtain ⟨_, _, _, _, _, _, _, _, T_InvalidRows⟩ : ErrX P K mg C0 C1 C2 C3 "InvalidRows" ["position"] 0 := E ("InvalidRows", ["position"], 0) (by simp [table, tableA, tableB])
  obtain ⟨_, _, _, _, _, _, _, _, T_InvalidStore⟩ : ErrX P K mg C0 C1 C2 C3 "InvalidStore" ["value"] 0 := E ("InvalidStore", ["value"], 0) (by simp [table, tableA, tableB])
  obtain ⟨_, _, _, _, _, _, _, _, T_InvalidWalk⟩ : ErrX P K mg C0 C1 C2 C3 "InvalidWalk" ["problem", "place"] 0 := E ("InvalidWalk", ["problem", "place"], 0) (by simp [table, tableA, tableB])
  obtain ⟨_, _, _, _, _, _, _, _, T_NoWalk⟩ : ErrX P K mg C0 C1 C2 C3 "NoWalk" ["value"] 0 := E ("NoWalk", ["value"], 0) (by simp [table, tableA, tableB])
  obtain ⟨_, _, _, _, _, _, _, _, T_InvalidRoots⟩ : ErrX P K mg C0 C1 C2 C3 "InvalidRoots" ["find"] 0 := E ("InvalidRoots", ["find"], 0) (by simp [table, tableA, tableB])
  obtain ⟨_, _, _, _, _, _, _, _, T_InvalidWord⟩ : ErrX P K mg C0 C1 C2 C3 "InvalidWord" ["value"] 0 := E ("InvalidWord", ["value"], 0) (by simp [table, tableA, tableB])
  obtain ⟨_, _, _, _, _, _, _, _, T_InvalidPlan⟩ : ErrX P K mg C0 C1 C2 C3 "InvalidPlan" ["value"] 0 := E ("InvalidPlan", ["value"], 0) (by simp [table, tableA, tableB])
  obtain ⟨_, _, _, _, _, _, _, _, T_InvalidLinks⟩ : ErrX P K mg C0 C1 C2 C3 "InvalidLinks" ["position"] 0 := E ("InvalidLinks", ["position"], 0) (by simp [table, tableA, tableB])
  refine F.ok scFetch (fun vs H Q E h => ?_) (fun cdv A outer s H vs Q E hr h => ?_)
  · obtain ⟨r, b, g, rfl, _⟩ := h
    rfl
  · obtain ⟨r, b, g, rfl, hQ⟩ := h
    refine ⟨_, PSs.nox (pss_cons (ps_set (i := 3) scFetch.nd rfl (Or.inl rfl) (pe_lst pa_nil))
      (pss_cons (ps_expr (pe_bm PySem.F.plainAttrs_list PySem.F.slot_list_append PySem.F.type_list_append mt_append (pv 3) (pa_cons (pe_tup (pa_cons (pe_err T_InvalidKinds.T T_InvalidKinds.pos (by decide) hr B.super (by rfl) T_InvalidKinds.g (pa_cons (pv 0) pa_nil)) (pa_cons pe_str pa_nil))) pa_nil)))
      (pss_cons (ps_expr (pe_bm PySem.F.plainAttrs_list PySem.F.slot_list_append PySem.F.type_list_append mt_append (pv 3) (pa_cons (pe_tup (pa_cons (pe_errK T_InvalidKinds.T T_InvalidKinds.key hr B.super (by rfl) T_InvalidKinds.g (pk_cons (pv 0) pk_nil)) (pa_cons pe_str pa_nil))) pa_nil)))
      (pss_cons (ps_expr (pe_bm PySem.F.plainAttrs_list PySem.F.slot_list_append PySem.F.type_list_append mt_append (pv 3) (pa_cons (pe_tup (pa_cons (pe_err T_InvalidFields.T T_InvalidFields.pos (by decide) hr B.super (by rfl) T_InvalidFields.g (pa_cons (pv 0) pa_nil)) (pa_cons pe_str pa_nil))) pa_nil)))
      (pss_cons (ps_expr (pe_bm PySem.F.plainAttrs_list PySem.F.slot_list_append PySem.F.type_list_append mt_append (pv 3) (pa_cons (pe_tup (pa_cons (pe_errK T_InvalidFields.T T_InvalidFields.key hr B.super (by rfl) T_InvalidFields.g (pk_cons (pv 0) pk_nil)) (pa_cons pe_str pa_nil))) pa_nil)))
      (pss_cons (ps_expr (pe_bm PySem.F.plainAttrs_list PySem.F.slot_list_append PySem.F.type_list_append mt_append (pv 3) (pa_cons (pe_tup (pa_cons (pe_err T_InvalidFlags.T T_InvalidFlags.pos (by decide) hr B.super (by rfl) T_InvalidFlags.g (pa_cons (pv 0) pa_nil)) (pa_cons pe_str pa_nil))) pa_nil)))
      (pss_cons (ps_expr (pe_bm PySem.F.plainAttrs_list PySem.F.slot_list_append PySem.F.type_list_append mt_append (pv 3) (pa_cons (pe_tup (pa_cons (pe_errK T_InvalidFlags.T T_InvalidFlags.key hr B.super (by rfl) T_InvalidFlags.g (pk_cons (pv 0) pk_nil)) (pa_cons pe_str pa_nil))) pa_nil)))
      (pss_cons (ps_expr (pe_bm PySem.F.plainAttrs_list PySem.F.slot_list_append PySem.F.type_list_append mt_append (pv 3) (pa_cons (pe_tup (pa_cons (pe_err T_InvalidSchema.T T_InvalidSchema.pos (by decide) hr B.super (by rfl) T_InvalidSchema.g (pa_cons (pv 0) pa_nil)) (pa_cons pe_str pa_nil))) pa_nil)))
      (pss_cons (ps_expr (pe_bm PySem.F.plainAttrs_list PySem.F.slot_list_append PySem.F.type_list_append mt_append (pv 3) (pa_cons (pe_tup (pa_cons (pe_errK T_InvalidSchema.T T_InvalidSchema.key hr B.super (by rfl) T_InvalidSchema.g (pk_cons (pv 0) pk_nil)) (pa_cons pe_str pa_nil))) pa_nil)))
      (pss_cons (ps_expr (pe_bm PySem.F.plainAttrs_list PySem.F.slot_list_append PySem.F.type_list_append mt_append (pv 3) (pa_cons (pe_tup (pa_cons (pe_err T_InvalidId.T T_InvalidId.pos (by decide) hr B.super (by rfl) T_InvalidId.g (pa_cons (pv 0) pa_nil)) (pa_cons pe_str pa_nil))) pa_nil)))
      (pss_cons (ps_expr (pe_bm PySem.F.plainAttrs_list PySem.F.slot_list_append PySem.F.type_list_append mt_append (pv 3) (pa_cons (pe_tup (pa_cons (pe_errK T_InvalidId.T T_InvalidId.key hr B.super (by rfl) T_InvalidId.g (pk_cons (pv 0) pk_nil)) (pa_cons pe_str pa_nil))) pa_nil)))
      (pss_cons (ps_expr (pe_bm PySem.F.plainAttrs_list PySem.F.slot_list_append PySem.F.type_list_append mt_append (pv 3) (pa_cons (pe_tup (pa_cons (pe_err T_InvalidRow.T T_InvalidRow.pos (by decide) hr B.super (by rfl) T_InvalidRow.g (pa_cons (pv 0) pa_nil)) (pa_cons pe_str pa_nil))) pa_nil)))
      (pss_cons (ps_expr (pe_bm PySem.F.plainAttrs_list PySem.F.slot_list_append PySem.F.type_list_append mt_append (pv 3) (pa_cons (pe_tup (pa_cons (pe_errK T_InvalidRow.T T_InvalidRow.key hr B.super (by rfl) T_InvalidRow.g (pk_cons (pv 0) pk_nil)) (pa_cons pe_str pa_nil))) pa_nil)))
      (pss_cons (ps_expr (pe_bm PySem.F.plainAttrs_list PySem.F.slot_list_append PySem.F.type_list_append mt_append (pv 3) (pa_cons (pe_tup (pa_cons (pe_err T_InvalidRows.T T_InvalidRows.pos (by decide) hr B.super (by rfl) T_InvalidRows.g (pa_cons (pv 0) pa_nil)) (pa_cons pe_str pa_nil))) pa_nil)))
      (pss_cons (ps_expr (pe_bm PySem.F.plainAttrs_list PySem.F.slot_list_append PySem.F.type_list_append mt_append (pv 3) (pa_cons (pe_tup (pa_cons (pe_errK T_InvalidRows.T T_InvalidRows.key hr B.super (by rfl) T_InvalidRows.g (pk_cons (pv 0) pk_nil)) (pa_cons pe_str pa_nil))) pa_nil)))
      (pss_cons (ps_expr (pe_bm PySem.F.plainAttrs_list PySem.F.slot_list_append PySem.F.type_list_append mt_append (pv 3) (pa_cons (pe_tup (pa_cons (pe_err T_InvalidStore.T T_InvalidStore.pos (by decide) hr B.super (by rfl) T_InvalidStore.g (pa_cons (pv 0) pa_nil)) (pa_cons pe_str pa_nil))) pa_nil)))
      (pss_cons (ps_expr (pe_bm PySem.F.plainAttrs_list PySem.F.slot_list_append PySem.F.type_list_append mt_append (pv 3) (pa_cons (pe_tup (pa_cons (pe_errK T_InvalidStore.T T_InvalidStore.key hr B.super (by rfl) T_InvalidStore.g (pk_cons (pv 0) pk_nil)) (pa_cons pe_str pa_nil))) pa_nil)))
      (pss_cons (ps_expr (pe_bm PySem.F.plainAttrs_list PySem.F.slot_list_append PySem.F.type_list_append mt_append (pv 3) (pa_cons (pe_tup (pa_cons (pe_err T_InvalidWalk.T T_InvalidWalk.pos (by decide) hr B.super (by rfl) T_InvalidWalk.g (pa_cons (pv 0) (pa_cons (pv 1) pa_nil))) (pa_cons pe_str pa_nil))) pa_nil)))
      (pss_cons (ps_expr (pe_bm PySem.F.plainAttrs_list PySem.F.slot_list_append PySem.F.type_list_append mt_append (pv 3) (pa_cons (pe_tup (pa_cons (pe_errK T_InvalidWalk.T T_InvalidWalk.key hr B.super (by rfl) T_InvalidWalk.g (pk_cons (pv 1) (pk_cons (pv 0) pk_nil))) (pa_cons pe_str pa_nil))) pa_nil)))
      (pss_cons (ps_expr (pe_bm PySem.F.plainAttrs_list PySem.F.slot_list_append PySem.F.type_list_append mt_append (pv 3) (pa_cons (pe_tup (pa_cons (pe_err T_NoWalk.T T_NoWalk.pos (by decide) hr B.super (by rfl) T_NoWalk.g (pa_cons (pv 0) pa_nil)) (pa_cons pe_str pa_nil))) pa_nil)))
      (pss_cons (ps_expr (pe_bm PySem.F.plainAttrs_list PySem.F.slot_list_append PySem.F.type_list_append mt_append (pv 3) (pa_cons (pe_tup (pa_cons (pe_errK T_NoWalk.T T_NoWalk.key hr B.super (by rfl) T_NoWalk.g (pk_cons (pv 0) pk_nil)) (pa_cons pe_str pa_nil))) pa_nil)))
      (pss_cons (ps_expr (pe_bm PySem.F.plainAttrs_list PySem.F.slot_list_append PySem.F.type_list_append mt_append (pv 3) (pa_cons (pe_tup (pa_cons (pe_err T_InvalidRoots.T T_InvalidRoots.pos (by decide) hr B.super (by rfl) T_InvalidRoots.g (pa_cons (pv 0) pa_nil)) (pa_cons pe_str pa_nil))) pa_nil)))
      (pss_cons (ps_expr (pe_bm PySem.F.plainAttrs_list PySem.F.slot_list_append PySem.F.type_list_append mt_append (pv 3) (pa_cons (pe_tup (pa_cons (pe_errK T_InvalidRoots.T T_InvalidRoots.key hr B.super (by rfl) T_InvalidRoots.g (pk_cons (pv 0) pk_nil)) (pa_cons pe_str pa_nil))) pa_nil)))
      (pss_cons (ps_expr (pe_bm PySem.F.plainAttrs_list PySem.F.slot_list_append PySem.F.type_list_append mt_append (pv 3) (pa_cons (pe_tup (pa_cons (pe_err T_InvalidWord.T T_InvalidWord.pos (by decide) hr B.super (by rfl) T_InvalidWord.g (pa_cons (pv 0) pa_nil)) (pa_cons pe_str pa_nil))) pa_nil)))
      (pss_cons (ps_expr (pe_bm PySem.F.plainAttrs_list PySem.F.slot_list_append PySem.F.type_list_append mt_append (pv 3) (pa_cons (pe_tup (pa_cons (pe_errK T_InvalidWord.T T_InvalidWord.key hr B.super (by rfl) T_InvalidWord.g (pk_cons (pv 0) pk_nil)) (pa_cons pe_str pa_nil))) pa_nil)))
      (pss_cons (ps_expr (pe_bm PySem.F.plainAttrs_list PySem.F.slot_list_append PySem.F.type_list_append mt_append (pv 3) (pa_cons (pe_tup (pa_cons (pe_err T_InvalidPlan.T T_InvalidPlan.pos (by decide) hr B.super (by rfl) T_InvalidPlan.g (pa_cons (pv 0) pa_nil)) (pa_cons pe_str pa_nil))) pa_nil)))
      (pss_cons (ps_expr (pe_bm PySem.F.plainAttrs_list PySem.F.slot_list_append PySem.F.type_list_append mt_append (pv 3) (pa_cons (pe_tup (pa_cons (pe_errK T_InvalidPlan.T T_InvalidPlan.key hr B.super (by rfl) T_InvalidPlan.g (pk_cons (pv 0) pk_nil)) (pa_cons pe_str pa_nil))) pa_nil)))
      (pss_cons (ps_expr (pe_bm PySem.F.plainAttrs_list PySem.F.slot_list_append PySem.F.type_list_append mt_append (pv 3) (pa_cons (pe_tup (pa_cons (pe_err T_InvalidLinks.T T_InvalidLinks.pos (by decide) hr B.super (by rfl) T_InvalidLinks.g (pa_cons (pv 0) pa_nil)) (pa_cons pe_str pa_nil))) pa_nil)))
      (pss_cons (ps_expr (pe_bm PySem.F.plainAttrs_list PySem.F.slot_list_append PySem.F.type_list_append mt_append (pv 3) (pa_cons (pe_tup (pa_cons (pe_errK T_InvalidLinks.T T_InvalidLinks.key hr B.super (by rfl) T_InvalidLinks.g (pk_cons (pv 0) pk_nil)) (pa_cons pe_str pa_nil))) pa_nil)))
      (pss_one (ps_ret (pv 3)))))))))))))))))))))))))))))))), ?_⟩
    refine ⟨Nat.zero_le _, fun l h0 => ?_⟩
    have I0 : RowsAt K C0 C1 C2 C3 0 [r, b, g] H (upd H l (.lst [])) l 0 [] := rows_start h0
    refine row_step (vals := [r, b, g]) (as := [r]) (zs := []) (fun H Q q => ⟨_, rfl, q⟩) (fun H Q q => q) rfl rfl rfl rfl rfl T_InvalidKinds.good (by decide +kernel) (by decide +kernel) (by show 1 ≤ 3; decide) I0 (by decide) fun H1 v1 I1 => ?_
    refine row_step (vals := [r, b, g]) (as := []) (zs := [r]) (fun H Q q => q) (fun H Q q => ⟨_, rfl, q⟩) rfl rfl rfl rfl rfl T_InvalidKinds.good (by decide +kernel) (by decide +kernel) (by show 1 ≤ 3; decide) I1 (by decide) fun H2 v2 I2 => ?_
    refine row_step (vals := [r, b, g]) (as := [r]) (zs := []) (fun H Q q => ⟨_, rfl, q⟩) (fun H Q q => q) rfl rfl rfl rfl rfl T_InvalidFields.good (by decide +kernel) (by decide +kernel) (by show 1 ≤ 3; decide) I2 (by decide) fun H3 v3 I3 => ?_
    refine row_step (vals := [r, b, g]) (as := []) (zs := [r]) (fun H Q q => q) (fun H Q q => ⟨_, rfl, q⟩) rfl rfl rfl rfl rfl T_InvalidFields.good (by decide +kernel) (by decide +kernel) (by show 1 ≤ 3; decide) I3 (by decide) fun H4 v4 I4 => ?_
    refine row_step (vals := [r, b, g]) (as := [r]) (zs := []) (fun H Q q => ⟨_, rfl, q⟩) (fun H Q q => q) rfl rfl rfl rfl rfl T_InvalidFlags.good (by decide +kernel) (by decide +kernel) (by show 1 ≤ 3; decide) I4 (by decide) fun H5 v5 I5 => ?_
    refine row_step (vals := [r, b, g]) (as := []) (zs := [r]) (fun H Q q => q) (fun H Q q => ⟨_, rfl, q⟩) rfl rfl rfl rfl rfl T_InvalidFlags.good (by decide +kernel) (by decide +kernel) (by show 1 ≤ 3; decide) I5 (by decide) fun H6 v6 I6 => ?_
    refine row_step (vals := [r, b, g]) (as := [r]) (zs := []) (fun H Q q => ⟨_, rfl, q⟩) (fun H Q q => q) rfl rfl rfl rfl rfl T_InvalidSchema.good (by decide +kernel) (by decide +kernel) (by show 1 ≤ 3; decide) I6 (by decide) fun H7 v7 I7 => ?_
    refine row_step (vals := [r, b, g]) (as := []) (zs := [r]) (fun H Q q => q) (fun H Q q => ⟨_, rfl, q⟩) rfl rfl rfl rfl rfl T_InvalidSchema.good (by decide +kernel) (by decide +kernel) (by show 1 ≤ 3; decide) I7 (by decide) fun H8 v8 I8 => ?_
    refine row_step (vals := [r, b, g]) (as := [r]) (zs := []) (fun H Q q => ⟨_, rfl, q⟩) (fun H Q q => q) rfl rfl rfl rfl rfl T_InvalidId.good (by decide +kernel) (by decide +kernel) (by show 1 ≤ 3; decide) I8 (by decide) fun H9 v9 I9 => ?_
    refine row_step (vals := [r, b, g]) (as := []) (zs := [r]) (fun H Q q => q) (fun H Q q => ⟨_, rfl, q⟩) rfl rfl rfl rfl rfl T_InvalidId.good (by decide +kernel) (by decide +kernel) (by show 1 ≤ 3; decide) I9 (by decide) fun H10 v10 I10 => ?_
    refine row_step (vals := [r, b, g]) (as := [r]) (zs := []) (fun H Q q => ⟨_, rfl, q⟩) (fun H Q q => q) rfl rfl rfl rfl rfl T_InvalidRow.good (by decide +kernel) (by decide +kernel) (by show 1 ≤ 3; decide) I10 (by decide) fun H11 v11 I11 => ?_
    refine row_step (vals := [r, b, g]) (as := []) (zs := [r]) (fun H Q q => q) (fun H Q q => ⟨_, rfl, q⟩) rfl rfl rfl rfl rfl T_InvalidRow.good (by decide +kernel) (by decide +kernel) (by show 1 ≤ 3; decide) I11 (by decide) fun H12 v12 I12 => ?_
    refine row_step (vals := [r, b, g]) (as := [r]) (zs := []) (fun H Q q => ⟨_, rfl, q⟩) (fun H Q q => q) rfl rfl rfl rfl rfl T_InvalidRows.good (by decide +kernel) (by decide +kernel) (by show 1 ≤ 3; decide) I12 (by decide) fun H13 v13 I13 => ?_
    refine row_step (vals := [r, b, g]) (as := []) (zs := [r]) (fun H Q q => q) (fun H Q q => ⟨_, rfl, q⟩) rfl rfl rfl rfl rfl T_InvalidRows.good (by decide +kernel) (by decide +kernel) (by show 1 ≤ 3; decide) I13 (by decide) fun H14 v14 I14 => ?_
    refine row_step (vals := [r, b, g]) (as := [r]) (zs := []) (fun H Q q => ⟨_, rfl, q⟩) (fun H Q q => q) rfl rfl rfl rfl rfl T_InvalidStore.good (by decide +kernel) (by decide +kernel) (by show 1 ≤ 3; decide) I14 (by decide) fun H15 v15 I15 => ?_
    refine row_step (vals := [r, b, g]) (as := []) (zs := [r]) (fun H Q q => q) (fun H Q q => ⟨_, rfl, q⟩) rfl rfl rfl rfl rfl T_InvalidStore.good (by decide +kernel) (by decide +kernel) (by show 1 ≤ 3; decide) I15 (by decide) fun H16 v16 I16 => ?_
    refine row_step (vals := [r, b, g]) (as := [r, b]) (zs := []) (fun H Q q => ⟨_, rfl, ⟨_, rfl, q⟩⟩) (fun H Q q => q) rfl rfl rfl rfl rfl T_InvalidWalk.good (by decide +kernel) (by decide +kernel) (by show 2 ≤ 3; decide) I16 (by decide) fun H17 v17 I17 => ?_
    refine row_step (vals := [r, b, g]) (as := []) (zs := [b, r]) (fun H Q q => q) (fun H Q q => ⟨_, rfl, ⟨_, rfl, q⟩⟩) rfl rfl rfl rfl rfl T_InvalidWalk.good (by decide +kernel) (by decide +kernel) (by show 2 ≤ 3; decide) I17 (by decide) fun H18 v18 I18 => ?_
    refine row_step (vals := [r, b, g]) (as := [r]) (zs := []) (fun H Q q => ⟨_, rfl, q⟩) (fun H Q q => q) rfl rfl rfl rfl rfl T_NoWalk.good (by decide +kernel) (by decide +kernel) (by show 1 ≤ 3; decide) I18 (by decide) fun H19 v19 I19 => ?_
    refine row_step (vals := [r, b, g]) (as := []) (zs := [r]) (fun H Q q => q) (fun H Q q => ⟨_, rfl, q⟩) rfl rfl rfl rfl rfl T_NoWalk.good (by decide +kernel) (by decide +kernel) (by show 1 ≤ 3; decide) I19 (by decide) fun H20 v20 I20 => ?_
    refine row_step (vals := [r, b, g]) (as := [r]) (zs := []) (fun H Q q => ⟨_, rfl, q⟩) (fun H Q q => q) rfl rfl rfl rfl rfl T_InvalidRoots.good (by decide +kernel) (by decide +kernel) (by show 1 ≤ 3; decide) I20 (by decide) fun H21 v21 I21 => ?_
    refine row_step (vals := [r, b, g]) (as := []) (zs := [r]) (fun H Q q => q) (fun H Q q => ⟨_, rfl, q⟩) rfl rfl rfl rfl rfl T_InvalidRoots.good (by decide +kernel) (by decide +kernel) (by show 1 ≤ 3; decide) I21 (by decide) fun H22 v22 I22 => ?_
    refine row_step (vals := [r, b, g]) (as := [r]) (zs := []) (fun H Q q => ⟨_, rfl, q⟩) (fun H Q q => q) rfl rfl rfl rfl rfl T_InvalidWord.good (by decide +kernel) (by decide +kernel) (by show 1 ≤ 3; decide) I22 (by decide) fun H23 v23 I23 => ?_
    refine row_step (vals := [r, b, g]) (as := []) (zs := [r]) (fun H Q q => q) (fun H Q q => ⟨_, rfl, q⟩) rfl rfl rfl rfl rfl T_InvalidWord.good (by decide +kernel) (by decide +kernel) (by show 1 ≤ 3; decide) I23 (by decide) fun H24 v24 I24 => ?_
    refine row_step (vals := [r, b, g]) (as := [r]) (zs := []) (fun H Q q => ⟨_, rfl, q⟩) (fun H Q q => q) rfl rfl rfl rfl rfl T_InvalidPlan.good (by decide +kernel) (by decide +kernel) (by show 1 ≤ 3; decide) I24 (by decide) fun H25 v25 I25 => ?_
    refine row_step (vals := [r, b, g]) (as := []) (zs := [r]) (fun H Q q => q) (fun H Q q => ⟨_, rfl, q⟩) rfl rfl rfl rfl rfl T_InvalidPlan.good (by decide +kernel) (by decide +kernel) (by show 1 ≤ 3; decide) I25 (by decide) fun H26 v26 I26 => ?_
    refine row_step (vals := [r, b, g]) (as := [r]) (zs := []) (fun H Q q => ⟨_, rfl, q⟩) (fun H Q q => q) rfl rfl rfl rfl rfl T_InvalidLinks.good (by decide +kernel) (by decide +kernel) (by show 1 ≤ 3; decide) I26 (by decide) fun H27 v27 I27 => ?_
    refine row_step (vals := [r, b, g]) (as := []) (zs := [r]) (fun H Q q => q) (fun H Q q => ⟨_, rfl, q⟩) rfl rfl rfl rfl rfl T_InvalidLinks.good (by decide +kernel) (by decide +kernel) (by show 1 ≤ 3; decide) I27 (by decide) fun H28 v28 I28 => ?_
    exact ⟨_, rfl, hQ _ l _ I28.same h0 I28.at_ (by rw [I28.len]; decide) I28.ok⟩
end
end K14
end
section
set_option Elab.async false
set_option linter.all false
set_option maxRecDepth 100000
set_option maxHeartbeats 4000000
/-! K14d: the look at a list of rows -/
namespace L2
open PySem PySem.Spec PyProof.Rows PySem.EK
theorem FunD.okG {P : Program} {w : World} {K : PySem.W.Frag} {mg : Str → Option Value} {base : Heap} {x qual : Str} {params : Arguments} {body : List Stmt} {scope : Scope} {dvs : List V} {kws : List (Str × V)} {f : Addr} {fd : FuncData} {CX : CXT} {N ps : List Str} {k : Nat} {sp : Sp}
    (F : FunD K x qual params body scope dvs kws f fd) (S : FnScope N ps scope) (len : ∀ vs H Q E, sp vs H Q E → vs.length = ps.length)
    (hbody : ∀ (cdv : Value) (A : Around) (outer : List Env) (s : Shared) (H : Hp) (vs : List V) (Q : VK) (E : XK), A.guards = some [] → Room k (A.deeper (envOfC qual scope s.heap.objs.size f cdv)) → sp vs H Q E →
      ∃ t, PSs (cxOf CX P w K mg base N qual scope f cdv A outer s H E) body t ∧ t { nx := fun _ H' => Q .non H', rt := Q } (start N vs) H) : FnG P w K mg base CX (k + 1) f fd ps sp := by
  obtain ⟨oc, od, dV, kV, doc, pm, an, cdv, ct, osl, rfl, lk, hcd, _, _⟩ := F.ex
  exact fnG_of lk hcd S len fun A outer s H vs Q E hg hr hsp => hbody cdv A outer s H vs Q E hg hr hsp
theorem Same.sqT {K : PySem.W.Frag} {H H' : Hp} {a : Addr} {xs : List V} (e : Same H H') (h : SqT K H a xs) : SqT K H' a xs := by
  rcases h with (h | ⟨o, h⟩) | h
  · exact .inl (.inl (e _ _ h))
  · exact .inl (.inr ⟨o, e _ _ h⟩)
  · exact .inr h
theorem Same.rd {H H' : Hp} {a : Addr} {u : HO} (e : Same H H') (h : Rd H a u) : Rd H' a u := by
  rcases h with h | ⟨o, h⟩
  · exact .inl (e _ _ h)
  · exact .inr ⟨o, e _ _ h⟩
mutual
theorem DpD.same {K : PySem.W.Frag} {H H' : Hp} (e : Same H H') : ∀ {v : V} {d : PyData}, DpD K H v d → DpD K H' v d
  | _, _, .non => .non
  | _, _, .bl b => .bl b
  | _, _, .int i => .int i
  | _, _, .str x => .str x
  | _, _, .lst h t => .lst (e.seq h) (DpDAll.same e t)
  | _, _, .tup h t => .tup (e.sqT h) (DpDAll.same e t)
  | _, _, .dct h k t => .dct (e.rd h) k (DpDAll.same e t)
theorem DpDAll.same {K : PySem.W.Frag} {H H' : Hp} (e : Same H H') : ∀ {vs : List V} {ds : List PyData}, DpDAll K H vs ds → DpDAll K H' vs ds
  | _, _, .nil => .nil
  | _, _, .cons h t => .cons (DpD.same e h) (DpDAll.same e t)
end
theorem DpDAll.take {K : PySem.W.Frag} {H : Hp} : ∀ {vs : List V} {ds : List PyData} (n : Nat), DpDAll K H vs ds → DpDAll K H (vs.take n) (ds.take n)
  | _, _, 0, _ => .nil
  | _, _, _ + 1, .nil => .nil
  | _, _, n + 1, .cons h t => .cons h (DpDAll.take n t)
/-- data that is short when it is shown -/
def Short (d : PyData) : Prop := d.showable = true ∧ d.depth ≤ 5 ∧ d.shown.length ≤ 1000
def Shorts (K : PySem.W.Frag) (H : Hp) (xs : List V) : Prop := ∃ ds, DpDAll K H xs ds ∧ ∀ d ∈ ds, Short d
theorem Shorts.same {K : PySem.W.Frag} {H H' : Hp} {xs : List V} (e : Same H H') (h : Shorts K H xs) : Shorts K H' xs := by
  obtain ⟨ds, h1, h2⟩ := h
  exact ⟨ds, h1.same e, h2⟩
theorem showableAll_of' : ∀ {ds : List PyData}, (∀ d ∈ ds, Short d) → PyData.showableAll ds = true
  | [], _ => by simp [PyData.showableAll]
  | d :: ds, h => by
    simp only [PyData.showableAll, (h d (List.mem_cons_self ..)).1, Bool.true_and]
    exact showableAll_of' fun x hx => h x (List.mem_cons_of_mem _ hx)
theorem depthAll_of : ∀ {ds : List PyData}, (∀ d ∈ ds, Short d) → PyData.depthAll ds ≤ 5
  | [], _ => by simp [PyData.depthAll]
  | d :: ds, h => by
    simp only [PyData.depthAll]
    exact Nat.max_le.mpr ⟨(h d (List.mem_cons_self ..)).2.1, depthAll_of fun x hx => h x (List.mem_cons_of_mem _ hx)⟩
theorem sum_of : ∀ {ds : List PyData}, (∀ d ∈ ds, Short d) → ((PyData.shownAll ds).map (·.length)).sum ≤ 1000 * ds.length
  | [], _ => by simp [PyData.shownAll]
  | d :: ds, h => by
    have h1 := (h d (List.mem_cons_self ..)).2.2
    have h2 := sum_of (ds := ds) fun x hx => h x (List.mem_cons_of_mem _ hx)
    simp only [PyData.shownAll, List.map_cons, List.sum_cons, List.length_cons]
    omega
theorem shown_short {ds : List PyData} (h : ∀ d ∈ ds, Short d) (hl : ds.length ≤ 100) : (PyData.list ds).showable = true ∧ (PyData.list ds).depth ≤ 60 ∧ (PyData.list ds).shown.length ≤ sizeLine := by
  refine ⟨?_, ?_, ?_⟩
  · simp only [PyData.showable]
    exact showableAll_of' h
  · simp only [PyData.depth]
    have := depthAll_of h
    omega
  · have h1 := listText_len_le (PyData.shownAll ds)
    have h2 := sum_of h
    have h3 : (PyData.shownAll ds).length = ds.length := PyData.shownAll_length ds
    simp only [PyData.shown]
    rw [sizeLine_eq]
    omega
end L2
namespace K14
open PySem PySem.Spec PyProof.Rows L2 PySem.EK
abbrev sAre : Stmt := top 64
def spAre (K : PySem.W.Frag) (C0 C1 C2 C3 : Addr) : Sp := fun vs H Q _ => ∃ (l a : Addr) (j : Nat) (rows vals : List V), vs = [.ref l, .int (j : Int), .ref a] ∧ H l = some (.lst rows) ∧ rows.length ≤ 1000 ∧ (∀ v ∈ rows, RowOk K C0 C1 C2 C3 j vals H v) ∧
  H a = some (.lst vals) ∧ vals.length ≤ 50 ∧ Shorts K H vals ∧ ∀ H', Same H H' → Q (.bl true) H'
/-- the value of a field -/
def fval (fs : List Str) (vals : List V) (f : Str) : V := ((fs.zip vals).lookup f).getD .non
theorem fval_all {fs : List Str} {vals : List V} (hl : fs.length ≤ vals.length) (nd : fs.Nodup) : fs.map (fval fs vals) = vals.take fs.length := by
  induction fs generalizing vals with
  | nil => rfl
  | cons f r ih =>
    cases vals with
    | nil => simp at hl
    | cons v t =>
      simp only [List.nodup_cons] at nd
      have e1 : fval (f :: r) (v :: t) f = v := by simp [fval, List.lookup]
      have e2 : r.map (fval (f :: r) (v :: t)) = r.map (fval r t) := List.map_congr_left fun x hx => by
        have q : (x == f) = false := by
          simp only [beq_eq_false_iff_ne, ne_eq]
          exact fun z => nd.1 (by rw [← z]; exact hx)
        simp [fval, List.lookup, q]
      rw [List.map_cons, e1, e2, ih (by simpa using hl) nd.2]
      rfl
theorem zip_lookup_some' {fs : List Str} {vs : List V} {y : Str} (hl : fs.length ≤ vs.length) (h : y ∈ fs) : ∃ v, (fs.zip vs).lookup y = some v := by
  induction fs generalizing vs with
  | nil => cases h
  | cons f r ih =>
    cases vs with
    | nil => simp at hl
    | cons v t =>
      by_cases e : y = f
      · subst e
        exact ⟨v, by simp [List.lookup]⟩
      · have q : (y == f) = false := by simpa using e
        obtain ⟨u, hu⟩ := ih (vs := t) (by simpa using hl) (by
          rcases List.mem_cons.mp h with z | z
          · exact absurd z e
          · exact z)
        exact ⟨u, by simp only [List.zip_cons_cons, List.lookup, q]; exact hu⟩
section
variable {P : Program} {w : World} {K : PySem.W.Frag} {mg : Str → Option Value} {base : Heap} {f : Addr} {fd : FuncData} {C0 C1 C2 C3 : Addr}
theorem scAre : FnScope ["_law_rows", "_law_at", "_law_values", "_law_error", "_law_words", "_law_parts", "_law_due", "_law_ask", "_law_k"] ["_law_rows", "_law_at", "_law_values"] (defScope sAre) := ⟨rfl, rfl, rfl, by decide +kernel, rfl, by decide +kernel, by decide +kernel⟩
theorem ok_are {fP fB : Addr} {fdP fdB : FuncData} (F : FnP K "_law_are_right" sAre f fd) (B : Bl mg) (ns : NoSys K) (T : BT K mg C0 C1 C2 C3) (FP : FnP K "_law_part" sPart fP fdP) (gP : mg "_law_part" = some (.ref fP)) (FB : FnP K "_law_bases" sBases fB fdB) (gB : mg "_law_bases" = some (.ref fB)) :
    FnG P w K mg base CX0 2 f fd ["_law_rows", "_law_at", "_law_values"] (spAre K C0 C1 C2 C3) := by
  have GP : FnOk P w K mg base CX0 1 fP fdP ["_law_error", "_law_ask"] (spPart K) := ok_part FP
  have GB : FnOk P w K mg base CX0 1 fB fdB ["_law_error"] (spBases K C0 C1 C2 C3) := ok_bases FB B T
  have bP : Binds K fdP ["_law_error", "_law_ask"] [] := FP.bindsN fun _ _ _ _ _ _ us hl => match us, hl with | [_, _], _ => rfl
  have bB : Binds K fdB ["_law_error"] [] := FB.bindsN fun _ _ _ _ _ _ us hl => match us, hl with | [_], _ => rfl
  refine F.okG scAre (fun vs H Q E h => ?_) (fun cdv A outer s H vs Q E hg hr h => ?_)
  · obtain ⟨l, a, j, rows, vals, rfl, _⟩ := h
    rfl
  · obtain ⟨l, a, j, rows, vals, rfl, hl, hrl, hrows, ha, hvl, hsh, hQ⟩ := h
    refine ⟨_, PSs.nox (pss_cons (ps_for PassesOwn.never rfl (pi_list (pv 0)) (pg_tup (by rfl) (pgs_cons (pg_name (i := 3) scAre.nd rfl (Or.inr rfl)) (pgs_cons (pg_name (i := 4) scAre.nd rfl (Or.inl rfl)) pgs_nil))) (pss_cons (ps_setLc (i := 5) (own := [("_law_ask", 7)]) (by rfl) scAre.nd rfl rfl (sw_true rfl rfl rfl (by decide +kernel)) (pi_list (pe_split (pv 4) pe_str)) (blkOk_by (own := [("_law_ask", 7)]) (N := ["_law_rows", "_law_at", "_law_values", "_law_error", "_law_words", "_law_parts", "_law_due", "_law_ask", "_law_k"]) (sc := defScope sAre) (by decide +kernel)) (fun _ _ _ _ _ => (pg_name (i := 7) scAre.nd rfl (Or.inl rfl))) (fun _ _ _ _ _ => pts_one (pt_cmpR op_ne (pv 7) pe_str (nomark _))) (fun _ _ _ _ _ => (pe_call GP hr rfl gP FP.kp bP .nil pass0 (pa_cons (pv 3) (pa_cons (pv 7) pa_nil)))))
      (pss_cons (ps_if (pt_cmpR op_ne (pe_callB (call_reprD hg hr ns) (by rfl) B.repr (by decide +kernel) (pa_cons (pv 5) pa_nil)) (pe_callB (call_reprD hg hr ns) (by rfl) B.repr (by decide +kernel) (pa_cons (pe_slice sl_list (pv 2) po_none (po_some (pe_callB call_len_seq (by rfl) B.len (by decide +kernel) (pa_cons (pv 5) pa_nil)))) pa_nil)) (nomark _)) (pss_one (ps_ret pe_bl)) pss_nil)
      (pss_cons (ps_setLc (i := 6) (own := [("_law_k", 8)]) (by rfl) scAre.nd rfl rfl (sw_true rfl rfl rfl (by decide +kernel)) (pi_range1 (by rfl) B.range (pa_cons pe_int pa_nil)) (blkOk_by (own := [("_law_k", 8)]) (N := ["_law_rows", "_law_at", "_law_values", "_law_error", "_law_words", "_law_parts", "_law_due", "_law_ask", "_law_k"]) (sc := defScope sAre) (by decide +kernel)) (fun _ _ _ _ _ => (pg_name (i := 8) scAre.nd rfl (Or.inl rfl))) (fun _ _ _ _ _ => pts_nil) (fun _ _ _ _ _ => (pe_cmpR op_eq (pv 8) (pv 1) (nomark _))))
      (pss_one (ps_if (pt_cmpR (op_neD hr.units) (pe_call GB hr rfl gB FB.kp bB .nil pass0 (pa_cons (pv 3) pa_nil)) (pe_lst (pa_cons (pv 6) (pa_cons (pv 6) pa_nil))) (nomark _)) (pss_one (ps_ret pe_bl)) pss_nil))))))
      (pss_one (ps_ret pe_bl))), ?_⟩
    refine ⟨_, rfl, l, rfl, ⟨_, SqL.of hl⟩, for_list (K := K) (a := l) (xs := rows) (fun i σ H' => ∃ (o3 o4 o5 o6 o7 o8 : Option V), σ = [some (.ref l), some (.int (j : Int)), some (.ref a), o3, o4, o5, o6, o7, o8] ∧ Same H H')
      ⟨none, none, none, none, none, none, rfl, Same.refl H⟩ (fun i σ H' _ ⟨_, _, _, _, _, _, _, sm⟩ => SqL.of (sm _ _ hl)) ?_ ?_⟩
    · rintro i x σ H1 hx ⟨o3, o4, o5, o6, o7, o8, rfl, sm⟩
      obtain ⟨t, e, C, wd, fs, rfl, ht, he, good, hwords, hask, hfl, hnd, hwl⟩ := hrows x (List.mem_of_getElem? hx)
      refine ⟨t, _, rfl, SqT.of (sm _ _ ht), rfl, _, _, rfl, _, _, rfl, rfl, ?_⟩
      -- parts
      refine ⟨_, rfl, ⟨wd, rfl⟩, wd, _, rfl, rfl, (by decide +kernel), (by rw [sizeLine_eq]; omega), fun q hq => ?_⟩
      have sm2 : Same H (upd H1 q (.lst ((Txt.split wd " ").map V.str))) := sm.trans (same_upd hq)
      have sws : ∀ z ∈ Txt.split wd " ", z ≠ (Str.ofString "") → z ∈ fs := fun z hz hne => by
        rw [← hwords]
        exact List.mem_filter.mpr ⟨hz, decide_eq_true hne⟩
      refine ⟨q, rfl, ⟨_, SqL.of upd_same⟩, fun D hD => lc_list (K := K) (a := q) (xs := (Txt.split wd " ").map V.str)
        (fun n Hc => Same (upd H1 q (.lst ((Txt.split wd " ").map V.str))) Hc ∧ Hc D = some (.lst ((((Txt.split wd " ").take n).filter nz).map (fval fs vals))))
        ⟨same_upd hD, upd_same⟩ (fun n Hc _ ⟨s3, _⟩ => SqL.of (s3 _ _ upd_same)) ?_ ?_⟩
      · rintro n x Hc hn ⟨s3, hDc⟩
        obtain ⟨z, hz, rfl⟩ : ∃ z, (Txt.split wd " ")[n]? = some z ∧ x = V.str z := by
          rw [List.getElem?_map] at hn
          cases e : (Txt.split wd " ")[n]? with
          | none =>
            rw [e] at hn
            cases hn
          | some z =>
            rw [e] at hn
            exact ⟨z, rfl, (Option.some.inj hn).symm⟩
        refine ⟨rfl, ⟨_, rfl, rfl, _, rfl, ?_⟩⟩
        have htk : (Txt.split wd " ").take (n + 1) = (Txt.split wd " ").take n ++ [z] := by rw [List.take_succ, hz]; rfl
        by_cases h0 : z = Str.ofString ""
        · have e1 : (!decide (V.str z = V.str (Str.ofString ""))) = false := by
            rw [h0]
            simp
          rw [e1]
          refine iteF ⟨s3, ?_⟩
          have y : [z].filter nz = [] := by
            have y2 : nz z = false := decide_eq_false fun y3 => y3 h0
            simp [y2]
          rw [htk, List.filter_append, y, List.append_nil]
          exact hDc
        · have e1 : (!decide (V.str z = V.str (Str.ofString ""))) = true := by
            simp
            exact h0
          rw [e1]
          have hzf : z ∈ fs := sws z (List.mem_of_getElem? hz) h0
          have hza : z ∈ asked := by
            have y := List.all_eq_true.mp hask z hzf
            simpa using y
          obtain ⟨v, hv⟩ := zip_lookup_some' hfl hzf
          refine iteT ⟨_, rfl, _, rfl, e, C, z, _, v, rfl, hza, (he.same (sm2.trans s3)), good.a z hzf, hv, fun H4 s4 => ?_⟩
          refine ⟨_, s4 _ _ hDc, ?_, ?_, ?_⟩
          · have q1 := List.length_filter_le nz ((Txt.split wd " ").take n)
            have q2 : (fs.length) = ((Txt.split wd " ").filter nz).length := by rw [← hwords]; rfl
            have q3 : (((Txt.split wd " ").take n).filter nz).length ≤ ((Txt.split wd " ").filter nz).length := (List.Sublist.filter nz (List.take_sublist n _)).length_le
            rw [List.length_map, sizeLine_eq]
            omega
          · intro b o y
            rw [upd_ne (ne_of_none y hD)]
            exact s4 _ _ (s3 _ _ y)
          · rw [htk, List.filter_append, List.map_append]
            have y : [z].filter nz = [z] := by
              have y2 : nz z = true := decide_eq_true h0
              simp [y2]
            rw [y, upd_same]
            have y3 : fval fs vals z = v := by
              unfold fval
              rw [hv]
              rfl
            rw [List.map_singleton, y3]
      · rintro Hc ⟨s3, hDc⟩
        rw [List.length_map, List.take_length] at hDc
        have hfs : (Txt.split wd " ").filter nz = fs := hwords
        rw [hfs, fval_all hfl hnd] at hDc
        have sc : Same H Hc := sm2.trans s3
        obtain ⟨ds, hds, hshort⟩ := hsh
        have hsub : ∀ d ∈ ds.take fs.length, Short d := fun d hd => hshort d (List.mem_of_mem_take hd)
        have hdl : (ds.take fs.length).length ≤ 100 := by
          rw [List.length_take]
          omega
        obtain ⟨w1, w2, w3⟩ := shown_short hsub hdl
        -- repr(parts)
        refine ⟨_, rfl, D, .list (ds.take fs.length), rfl, .lst (SqL.of hDc) ((hds.same sc).take _), w1, w2, w3, ?_⟩
        -- values[:len(parts)]
        refine ⟨_, rfl, _, rfl, D, _, rfl, .inl (SqL.of hDc), _, rfl, a, _, rfl, SqL.of (sc _ _ ha), fun p hp => ?_⟩
        have hcut : cutV vals none (some (((vals.take fs.length).length : Nat) : Int)) = vals.take fs.length := by
          unfold cutV
          rw [HT.sIx_none, HT.sIx_nat, List.drop_zero, List.length_take]
          congr 1
          omega
        have scp : Same H (upd Hc p (.lst (cutV vals none (some (((vals.take fs.length).length : Nat) : Int))))) := sc.trans (same_upd hp)
        refine ⟨p, .list (ds.take fs.length), rfl, .lst (SqL.of (by rw [hcut] at *; exact upd_same)) ((hds.same scp).take _), w1, w2, w3, rfl, _, rfl, ?_⟩
        have e1 : (!decide (V.str (PyData.list (ds.take fs.length)).shown = V.str (PyData.list (ds.take fs.length)).shown)) = false := by simp
        show if (!decide (V.str (PyData.list (ds.take fs.length)).shown = V.str (PyData.list (ds.take fs.length)).shown)) = true then _ else _
        rw [e1]
        refine iteF ?_
        -- due
        refine ⟨4, rfl, by decide, by decide, fun D2 hD2 => lc_range (lo := 0) (n := 4)
          (fun n Hd => Same (upd Hc p (.lst (cutV vals none (some (((vals.take fs.length).length : Nat) : Int))))) Hd ∧ Hd D2 = some (.lst ((dueV j).take n))) ⟨same_upd hD2, upd_same⟩ ?_ ?_⟩
        · rintro n Hd hn4 ⟨s5, hd2⟩
          refine ⟨rfl, ⟨_, rfl, _, rfl, rfl, _, hd2, ?_, ?_, ?_⟩⟩
          · rw [List.length_take, sizeLine_eq]
            show min n 4 < _
            omega
          · intro b o y
            rw [upd_ne (ne_of_none y hD2)]
            exact s5 _ _ y
          · rw [upd_same]
            have e2 : (dueV j).take (n + 1) = (dueV j).take n ++ [.bl (decide (V.int (0 + (n : Int)) = V.int (j : Int)))] := by
              have key : ∀ m : Nat, decide (V.int (0 + (m : Int)) = V.int (j : Int)) = decide (j = m) := fun m => by
                by_cases y : j = m
                · subst y
                  simp
                · rw [decide_eq_false y]
                  refine decide_eq_false fun z => y ?_
                  have z2 : (0 + (m : Int)) = (j : Int) := V.int.inj z
                  omega
              rw [key]
              rcases n with _ | _ | _ | _ | n
              · rfl
              · rfl
              · rfl
              · rfl
              · omega
            rw [e2]
        · rintro Hd ⟨s5, hd2⟩
          have hd3 : Hd D2 = some (.lst (dueV j)) := hd2
          have sd : Same H Hd := scp.trans s5
          refine ⟨_, rfl, e, C, _, j, rfl, he.same sd, good.u, fun H6 p6 q6 r6 s6 a6 b6 c6 => ?_⟩
          refine ⟨_, rfl, _, rfl, (by show 2 ≤ sizeLine; decide), fun u hu => ?_⟩
          have su := same_upd (o := .lst [.ref D2, .ref D2]) hu
          have bl : ∀ b : Bool, Dp K (upd H6 u (.lst [.ref D2, .ref D2])) (.bl b) (.bool b) := fun b => .bl b
          have dd : ∀ {z : Addr}, upd H6 u (.lst [.ref D2, .ref D2]) z = some (.lst (dueV j)) → Dp K (upd H6 u (.lst [.ref D2, .ref D2])) (.ref z) (.list [.bool (decide (j = 0)), .bool (decide (j = 1)), .bool (decide (j = 2)), .bool (decide (j = 3))]) := fun h => .lst (SqL.of h) (.cons (bl _) (.cons (bl _) (.cons (bl _) (.cons (bl _) .nil))))
          refine ⟨.list [.list [.bool (decide (j = 0)), .bool (decide (j = 1)), .bool (decide (j = 2)), .bool (decide (j = 3))], .list [.bool (decide (j = 0)), .bool (decide (j = 1)), .bool (decide (j = 2)), .bool (decide (j = 3))]],
            .list [.list [.bool (decide (j = 0)), .bool (decide (j = 1)), .bool (decide (j = 2)), .bool (decide (j = 3))], .list [.bool (decide (j = 0)), .bool (decide (j = 1)), .bool (decide (j = 2)), .bool (decide (j = 3))]],
            .lst (SqL.of (su _ _ a6)) (.cons (dd (su _ _ b6)) (.cons (dd (su _ _ c6)) .nil)), .lst (SqL.of upd_same) (.cons (dd (su _ _ (s6 _ _ hd3))) (.cons (dd (su _ _ (s6 _ _ hd3))) .nil)), rfl, rfl, _, rfl, ?_⟩
          have e3 : ∀ d : PyData, SeqAt.shaped d = true → (!PyData.eqv d d) = false := fun d hd => by rw [SeqAt.eqv_refl d (SeqAt.canLay_of_shaped hd)]; rfl
          rw [e3 _ rfl]
          refine iteF ?_
          exact ⟨_, _, _, _, _, _, rfl, sd.trans (s6.trans su)⟩
    · rintro σ H1 ⟨o3, o4, o5, o6, o7, o8, rfl, sm⟩
      exact hQ _ sm
end
end K14
end
section
set_option Elab.async false
set_option linter.all false
set_option maxRecDepth 100000
set_option maxHeartbeats 4000000
/-! K14e: a cell's look, the law -/
namespace K14
open PySem PySem.Spec PyProof.Rows L2 PySem.EK
abbrev sRight : Stmt := top 65
abbrev sLaw : Stmt := top 66
def ShortV (K : PySem.W.Frag) (H : Hp) (v : V) : Prop := ∃ d, DpD K H v d ∧ Short d
theorem shorts_of {K : PySem.W.Frag} {H : Hp} : ∀ {vs : List V}, (∀ v ∈ vs, ShortV K H v) → Shorts K H vs
  | [], _ => ⟨[], .nil, fun _ z => nomatch z⟩
  | v :: vs, h => by
    obtain ⟨d, h1, h2⟩ := h v (List.mem_cons_self ..)
    obtain ⟨ds, h3, h4⟩ := shorts_of (vs := vs) fun x hx => h x (List.mem_cons_of_mem _ hx)
    exact ⟨d :: ds, .cons h1 h3, fun x hx => by
      rcases List.mem_cons.mp hx with rfl | hx
      · exact h2
      · exact h4 x hx⟩
/-- the values that are drawn -/
def menu (t1 t2 l1 l2 d1 d2 : Addr) : List V := [.non, .int 0, .int 7, .bl true, .str "", .str "late", .ref t1, .ref t2, .ref l1, .ref l2, .ref d1, .ref d2, .int (10 ^ Int.toNat 30), .int (-1)]
structure MenuAt (H : Hp) (t1 t2 l1 l2 d1 d2 : Addr) : Prop where
  t1 : H t1 = some (.tup [])
  t2 : H t2 = some (.tup [.int 1, .str "a"])
  l1 : H l1 = some (.lst [])
  l2 : H l2 = some (.lst [.int 0])
  d1 : H d1 = some (.dK [])
  d2 : H d2 = some (.dK [(.inr "a", .int 1)])
theorem menu_short {K : PySem.W.Frag} {H : Hp} {t1 t2 l1 l2 d1 d2 : Addr} (M : MenuAt H t1 t2 l1 l2 d1 d2) : ∀ v ∈ menu t1 t2 l1 l2 d1 d2, ShortV K H v := by
  intro v hv
  simp only [menu, List.mem_cons, List.not_mem_nil, or_false] at hv
  rcases hv with rfl | rfl | rfl | rfl | rfl | rfl | rfl | rfl | rfl | rfl | rfl | rfl | rfl | rfl
  · exact ⟨_, .non, by decide +kernel, by decide +kernel, by decide +kernel⟩
  · exact ⟨_, .int _, by decide +kernel, by decide +kernel, by decide +kernel⟩
  · exact ⟨_, .int _, by decide +kernel, by decide +kernel, by decide +kernel⟩
  · exact ⟨_, .bl _, by decide +kernel, by decide +kernel, by decide +kernel⟩
  · exact ⟨_, .str _, by decide +kernel, by decide +kernel, by decide +kernel⟩
  · exact ⟨_, .str _, by decide +kernel, by decide +kernel, by decide +kernel⟩
  · exact ⟨_, .tup (SqT.of M.t1) .nil, by decide +kernel, by decide +kernel, by decide +kernel⟩
  · exact ⟨_, .tup (SqT.of M.t2) (.cons (.int _) (.cons (.str _) .nil)), by decide +kernel, by decide +kernel, by decide +kernel⟩
  · exact ⟨_, .lst (SqL.of M.l1) .nil, by decide +kernel, by decide +kernel, by decide +kernel⟩
  · exact ⟨_, .lst (SqL.of M.l2) (.cons (.int _) .nil), by decide +kernel, by decide +kernel, by decide +kernel⟩
  · exact ⟨.dict [], .dct (Rd.of M.d1) rfl .nil, by decide +kernel, by decide +kernel, by decide +kernel⟩
  · exact ⟨.dict [(.str "a", .int 1)], .dct (Rd.of M.d2) rfl (.cons (.int _) .nil), by decide +kernel, by decide +kernel, by decide +kernel⟩
  · exact ⟨_, .int _, by decide +kernel, by decide +kernel, by decide +kernel⟩
  · exact ⟨_, .int _, by decide +kernel, by decide +kernel, by decide +kernel⟩
def spRight : Sp := fun vs H Q _ => ∃ (p : Addr) (x y : Int), vs = [.ref p] ∧ H p = some (.lst [.int x, .int y]) ∧ 0 ≤ x ∧ 0 ≤ y ∧ y < 2147483648 ∧ ∀ H', SameB p H H' → Q (.bl true) H'
def spLaw (K : PySem.W.Frag) : Sp := fun vs H Q _ => ∃ (a : Addr) (ns : List Int), vs = [.ref a] ∧ SqL K H a (ns.map V.int) ∧ ns.length ≤ 63 ∧ ∀ H', Q (.bl true) H'
section
variable {P : Program} {w : World} {K : PySem.W.Frag} {mg : Str → Option Value} {base : Heap} {f : Addr} {fd : FuncData} {C0 C1 C2 C3 : Addr}
theorem scRight : FnScope ["_law_pot_here", "_law_some", "_law_values", "_law_red", "_law_blue", "_law_green", "_law_turn"] ["_law_pot_here"] (defScope sRight) := ⟨rfl, rfl, rfl, by decide +kernel, rfl, by decide +kernel, by decide +kernel⟩
theorem ok_right {fP fA fF fT fM fS fL : Addr} {fdP fdA fdF fdT fdM fdS fdL : FuncData} (F : FnP K "_law_right" sRight f fd) (B : Bl mg)
    (GP : FnOk P w K mg base CX0 2 fP fdP ["_law_pot_here", "_law_some"] (spPick K)) (FP : FnP K "_law_pick" sPick fP fdP) (gP : mg "_law_pick" = some (.ref fP))
    (GA : FnG P w K mg base CX0 2 fA fdA ["_law_rows", "_law_at", "_law_values"] (spAre K C0 C1 C2 C3)) (FA : FnP K "_law_are_right" sAre fA fdA) (gA : mg "_law_are_right" = some (.ref fA))
    (GF : FnOk P w K mg base CX0 1 fF fdF ["_law_red", "_law_blue", "_law_green"] (spRows K C0 C1 C2 C3 0)) (FF : FnP K "_law_fetch" sFetch fF fdF) (gF : mg "_law_fetch" = some (.ref fF))
    (GT : FnOk P w K mg base CX0 1 fT fdT ["_law_red", "_law_blue", "_law_green"] (spRows K C0 C1 C2 C3 0)) (FT : FnP K "_law_fetch_too" sToo fT fdT) (gT : mg "_law_fetch_too" = some (.ref fT))
    (GM : FnOk P w K mg base CX0 1 fM fdM ["_law_red", "_law_blue", "_law_green"] (spRows K C0 C1 C2 C3 1)) (FM : FnP K "_law_missing" sMissing fM fdM) (gM : mg "_law_missing" = some (.ref fM))
    (GS : FnOk P w K mg base CX0 1 fS fdS ["_law_red", "_law_blue", "_law_green"] (spRows K C0 C1 C2 C3 2)) (FS : FnP K "_law_state" sState fS fdS) (gS : mg "_law_state" = some (.ref fS))
    (GL : FnOk P w K mg base CX0 1 fL fdL ["_law_red", "_law_blue", "_law_green"] (spRows K C0 C1 C2 C3 3)) (FL : FnP K "_law_limit" sLimit fL fdL) (gL : mg "_law_limit" = some (.ref fL)) :
    FnG P w K mg base CX0 3 f fd ["_law_pot_here"] spRight := by
  have bP : Binds K fdP ["_law_pot_here", "_law_some"] [] := FP.bindsN fun _ _ _ _ _ _ us hl => match us, hl with | [_, _], _ => rfl
  have bA : Binds K fdA ["_law_rows", "_law_at", "_law_values"] [] := FA.bindsN fun _ _ _ _ _ _ us hl => match us, hl with | [_, _, _], _ => rfl
  have bF : Binds K fdF ["_law_red", "_law_blue", "_law_green"] [] := FF.bindsN fun _ _ _ _ _ _ us hl => match us, hl with | [_, _, _], _ => rfl
  have bT : Binds K fdT ["_law_red", "_law_blue", "_law_green"] [] := FT.bindsN fun _ _ _ _ _ _ us hl => match us, hl with | [_, _, _], _ => rfl
  have bM : Binds K fdM ["_law_red", "_law_blue", "_law_green"] [] := FM.bindsN fun _ _ _ _ _ _ us hl => match us, hl with | [_, _, _], _ => rfl
  have bS : Binds K fdS ["_law_red", "_law_blue", "_law_green"] [] := FS.bindsN fun _ _ _ _ _ _ us hl => match us, hl with | [_, _, _], _ => rfl
  have bL : Binds K fdL ["_law_red", "_law_blue", "_law_green"] [] := FL.bindsN fun _ _ _ _ _ _ us hl => match us, hl with | [_, _, _], _ => rfl
  refine F.okG scRight (fun vs H Q E h => ?_) (fun cdv A outer s H vs Q E hg hr h => ?_)
  · obtain ⟨p, x, y, rfl, _⟩ := h
    rfl
  · obtain ⟨p, x, y, rfl, hp, hx, hy, hy2, hQ⟩ := h
    have hr1 : Room 1 _ := hr.mono (by decide)
    refine ⟨_, PSs.nox (pss_cons (ps_set (i := 1) scRight.nd rfl (Or.inr rfl) (pe_lst (pa_cons pe_non (pa_cons pe_int (pa_cons pe_int (pa_cons pe_bl (pa_cons pe_str (pa_cons pe_str (pa_cons (pe_tup pa_nil) (pa_cons (pe_tup (pa_cons pe_int (pa_cons pe_str pa_nil))) (pa_cons (pe_lst pa_nil) (pa_cons (pe_lst (pa_cons pe_int pa_nil)) (pa_cons pe_dnewK (pa_cons (pe_disp (pps_cons pe_str pe_int pps_nil) (by rfl) (by rfl) (fun z => by cases z) (by decide)) (pa_cons (pe_op op_pow pe_int pe_int) (pa_cons (pe_un un_neg pe_int) pa_nil))))))))))))))))
      (pss_cons (ps_setLc (i := 2) (own := [("_law_turn", 6)]) (by rfl) scRight.nd rfl rfl (sw_true rfl rfl rfl (by decide +kernel)) (pi_range1 (by rfl) B.range (pa_cons pe_int pa_nil)) (blkOk_by (own := [("_law_turn", 6)]) (N := ["_law_pot_here", "_law_some", "_law_values", "_law_red", "_law_blue", "_law_green", "_law_turn"]) (sc := defScope sRight) (by decide +kernel)) (fun _ _ _ _ _ => (pg_name (i := 6) scRight.nd rfl (Or.inl rfl))) (fun _ _ _ _ _ => pts_nil) (fun _ _ _ _ _ => (pe_call GP hr rfl gP FP.kp bP .nil pass0 (pa_cons (pv 0) (pa_cons (pv 1) pa_nil)))))
      (pss_cons (ps_asg (pv 2) (pg_unl (by rfl) (pgs_cons (pg_name (i := 3) scRight.nd rfl (Or.inl rfl)) (pgs_cons (pg_name (i := 4) scRight.nd rfl (Or.inl rfl)) (pgs_cons (pg_name (i := 5) scRight.nd rfl (Or.inl rfl)) pgs_nil)))))
      (pss_cons (ps_if (pt_not (pt_val (pe_callG GA hg hr rfl gA FA.kp bA .nil pass0 (pa_cons (pe_call GF hr1 rfl gF FF.kp bF .nil pass0 (pa_cons (pv 3) (pa_cons (pv 4) (pa_cons (pv 5) pa_nil)))) (pa_cons pe_int (pa_cons (pv 2) pa_nil)))))) (pss_one (ps_ret pe_bl)) pss_nil)
      (pss_cons (ps_if (pt_not (pt_val (pe_callG GA hg hr rfl gA FA.kp bA .nil pass0 (pa_cons (pe_call GT hr1 rfl gT FT.kp bT .nil pass0 (pa_cons (pv 3) (pa_cons (pv 4) (pa_cons (pv 5) pa_nil)))) (pa_cons pe_int (pa_cons (pv 2) pa_nil)))))) (pss_one (ps_ret pe_bl)) pss_nil)
      (pss_cons (ps_if (pt_not (pt_val (pe_callG GA hg hr rfl gA FA.kp bA .nil pass0 (pa_cons (pe_call GM hr1 rfl gM FM.kp bM .nil pass0 (pa_cons (pv 3) (pa_cons (pv 4) (pa_cons (pv 5) pa_nil)))) (pa_cons pe_int (pa_cons (pv 2) pa_nil)))))) (pss_one (ps_ret pe_bl)) pss_nil)
      (pss_cons (ps_if (pt_not (pt_val (pe_callG GA hg hr rfl gA FA.kp bA .nil pass0 (pa_cons (pe_call GS hr1 rfl gS FS.kp bS .nil pass0 (pa_cons (pv 3) (pa_cons (pv 4) (pa_cons (pv 5) pa_nil)))) (pa_cons pe_int (pa_cons (pv 2) pa_nil)))))) (pss_one (ps_ret pe_bl)) pss_nil)
      (pss_cons (ps_if (pt_not (pt_val (pe_callG GA hg hr rfl gA FA.kp bA .nil pass0 (pa_cons (pe_call GL hr1 rfl gL FL.kp bL .nil pass0 (pa_cons (pv 3) (pa_cons (pv 4) (pa_cons (pv 5) pa_nil)))) (pa_cons pe_int (pa_cons (pv 2) pa_nil)))))) (pss_one (ps_ret pe_bl)) pss_nil)
      (pss_one (ps_ret pe_bl)))))))))), ?_⟩
    refine ⟨Nat.zero_le _, fun t1 h1 => ⟨(by show 2 ≤ sizeLine; decide), fun t2 h2 => ⟨Nat.zero_le _, fun l1 h3 => ⟨(by show 1 ≤ sizeLine; decide), fun l2 h4 => fun d1 h5 => fun d2 h6 => ⟨upd_same, [(.inr "a", .int 1)], rfl, by decide, ?_⟩⟩⟩⟩⟩
    refine ⟨_, _, rfl, rfl, ⟨by decide, by decide, by decide⟩, _, rfl, (by show 14 ≤ sizeLine; decide), fun l hl => ?_⟩
    have hm : mergeK [] [((.inr "a" : Key), V.int 1)] = [(.inr "a", .int 1)] := by first | rfl | decide
    rw [upd_upd, hm] at hl
    rw [upd_upd, hm]
    have k2 := same_upd (o := .tup [.int 1, .str "a"]) h2
    have k3 := same_upd (o := .lst []) h3
    have k4 := same_upd (o := .lst [.int 0]) h4
    have k5 := same_upd (o := .dK []) h5
    have k6 := same_upd (o := .dK [(.inr "a", .int 1)]) h6
    have k7 := same_upd (o := .lst (menu t1 t2 l1 l2 d1 d2)) hl
    have M : MenuAt (upd (upd (upd (upd (upd (upd (upd H t1 (.tup [])) t2 (.tup [.int 1, .str "a"])) l1 (.lst [])) l2 (.lst [.int 0])) d1 (.dK [])) d2 (.dK [(.inr "a", .int 1)])) l (.lst (menu t1 t2 l1 l2 d1 d2))) t1 t2 l1 l2 d1 d2 :=
      ⟨k7 _ _ (k6 _ _ (k5 _ _ (k4 _ _ (k3 _ _ (k2 _ _ upd_same))))), k7 _ _ (k6 _ _ (k5 _ _ (k4 _ _ (k3 _ _ upd_same)))), k7 _ _ (k6 _ _ (k5 _ _ (k4 _ _ upd_same))), k7 _ _ (k6 _ _ (k5 _ _ upd_same)), k7 _ _ (k6 _ _ upd_same), k7 _ _ upd_same⟩
    have k1 := same_upd (o := .tup []) h1
    have kH := (((((k1.trans k2).trans k3).trans k4).trans k5).trans k6).trans k7
    have hlM : upd (upd (upd (upd (upd (upd (upd H t1 (.tup [])) t2 (.tup [.int 1, .str "a"])) l1 (.lst [])) l2 (.lst [.int 0])) d1 (.dK [])) d2 (.dK [(.inr "a", .int 1)])) l (.lst (menu t1 t2 l1 l2 d1 d2)) l = some (.lst (menu t1 t2 l1 l2 d1 d2)) := upd_same
    show tSeq _ _ _ _ (upd (upd (upd (upd (upd (upd (upd H t1 (.tup [])) t2 (.tup [.int 1, .str "a"])) l1 (.lst [])) l2 (.lst [.int 0])) d1 (.dK [])) d2 (.dK [(.inr "a", .int 1)])) l (.lst (menu t1 t2 l1 l2 d1 d2)))
    generalize hG : upd (upd (upd (upd (upd (upd (upd H t1 (.tup [])) t2 (.tup [.int 1, .str "a"])) l1 (.lst [])) l2 (.lst [.int 0])) d1 (.dK [])) d2 (.dK [(.inr "a", .int 1)])) l (.lst (menu t1 t2 l1 l2 d1 d2)) = HS at M kH hlM ⊢
    have pS : HS p = some (.lst [.int x, .int y]) := kH _ _ hp
    have ne2 : ∀ {q : Addr} {o : HO}, HS q = some o → o ≠ .lst [.int x, .int y] → q ≠ p := fun h hn => ne_of h pS hn
    have nT1 := ne2 M.t1 (fun z => by cases z)
    have nT2 := ne2 M.t2 (fun z => by cases z)
    have nL1 := ne2 M.l1 (fun z => by cases z)
    have nL2 := ne2 M.l2 (fun z => by cases z)
    have nD1 := ne2 M.d1 (fun z => by cases z)
    have nD2 := ne2 M.d2 (fun z => by cases z)
    have nl : l ≠ p := ne2 hlM (fun z => by unfold menu at z; cases z)
    refine ⟨3, rfl, by decide, by decide, fun D hD => lc_range (lo := 0) (n := 3)
      (fun n Hc => ∃ (x' y' : Int) (vs : List V), Hc p = some (.lst [.int x', .int y']) ∧ 0 ≤ x' ∧ 0 ≤ y' ∧ y' < 2147483648 ∧ SameB p HS Hc ∧ Hc D = some (.lst vs) ∧ vs.length = n ∧ ∀ v ∈ vs, v ∈ menu t1 t2 l1 l2 d1 d2)
      ⟨x, y, [], same_upd hD _ _ pS, hx, hy, hy2, fun b o _ e => same_upd hD _ _ e, upd_same, rfl, fun _ z => nomatch z⟩ ?_ ?_⟩
    · rintro n Hc hn ⟨x', y', vs, e1, e2, e3, e4, e5, e6, e7, e8⟩
      have nDp : D ≠ p := fun z => by rw [z, pS] at hD; cases hD
      refine ⟨rfl, ⟨_, rfl, _, rfl, p, l, x', y', menu t1 t2 l1 l2 d1 d2, rfl, e1, e2, e3, e4, e5 _ _ nl hlM, nl, (fun z => by unfold menu at z; cases z), (by show 14 < 1000000; decide), fun H' x2 y2 v s2 f1 f2 f3 f4 f5 => ?_⟩⟩
      refine ⟨vs, s2 _ _ nDp e6, ?_, x2, y2, vs ++ [v], ?_, f2, f3, f4, fun b o nb e => ?_, upd_same, by rw [List.length_append, e7]; rfl, fun u hu => ?_⟩
      · rw [e7, sizeLine_eq]
        omega
      · rw [upd_ne (Ne.symm nDp)]
        exact f1
      · rw [upd_ne (ne_of_none e hD)]
        exact s2 _ _ nb (e5 _ _ nb e)
      · rcases List.mem_append.mp hu with hu | hu
        · exact e8 u hu
        · rw [List.mem_singleton.mp hu]
          exact f5
    rintro Hv ⟨x', y', vs, e1, e2, e3, e4, e5, e6, e7, e8⟩
    obtain ⟨r, b, g, rfl⟩ : ∃ r b g, vs = [r, b, g] := by
      match vs, e7 with
      | [r, b, g], _ => exact ⟨r, b, g, rfl⟩
    have hD3 := e6
    have MV : MenuAt Hv t1 t2 l1 l2 d1 d2 := ⟨e5 _ _ nT1 M.t1, e5 _ _ nT2 M.t2, e5 _ _ nL1 M.l1, e5 _ _ nL2 M.l2, e5 _ _ nD1 M.d1, e5 _ _ nD2 M.d2⟩
    have hsh : Shorts K Hv [r, b, g] := shorts_of fun v hv => menu_short MV v (e8 v hv)
    have sHv : SameB p H Hv := fun c o nc e => e5 _ _ nc (kH _ _ e)
    refine ⟨_, rfl, D, _, rfl, SqL.of e6, rfl, _, _, rfl, _, _, rfl, _, _, rfl, rfl, ?_⟩
    refine ⟨_, rfl, _, rfl, _, rfl, r, b, g, rfl, fun X0 q0 rows0 s0 n0 a0 len0 ok0 => ?_⟩
    have y0 : Same Hv X0 := s0
    refine ⟨_, rfl, q0, D, 0, rows0, [r, b, g], rfl, a0, len0, ok0, y0 _ _ hD3, (by show 3 ≤ 50; decide), hsh.same y0, fun Y0 z0 => ⟨true, rfl, ?_⟩⟩
    refine iteF ?_
    have w0 : Same Hv Y0 := y0.trans z0
    refine ⟨_, rfl, _, rfl, _, rfl, r, b, g, rfl, fun X1 q1 rows1 s1 n1 a1 len1 ok1 => ?_⟩
    have y1 : Same Hv X1 := w0.trans s1
    refine ⟨_, rfl, q1, D, 0, rows1, [r, b, g], rfl, a1, len1, ok1, y1 _ _ hD3, (by show 3 ≤ 50; decide), hsh.same y1, fun Y1 z1 => ⟨true, rfl, ?_⟩⟩
    refine iteF ?_
    have w1 : Same Hv Y1 := y1.trans z1
    refine ⟨_, rfl, _, rfl, _, rfl, r, b, g, rfl, fun X2 q2 rows2 s2 n2 a2 len2 ok2 => ?_⟩
    have y2 : Same Hv X2 := w1.trans s2
    refine ⟨_, rfl, q2, D, 1, rows2, [r, b, g], rfl, a2, len2, ok2, y2 _ _ hD3, (by show 3 ≤ 50; decide), hsh.same y2, fun Y2 z2 => ⟨true, rfl, ?_⟩⟩
    refine iteF ?_
    have w2 : Same Hv Y2 := y2.trans z2
    refine ⟨_, rfl, _, rfl, _, rfl, r, b, g, rfl, fun X3 q3 rows3 s3 n3 a3 len3 ok3 => ?_⟩
    have y3 : Same Hv X3 := w2.trans s3
    refine ⟨_, rfl, q3, D, 2, rows3, [r, b, g], rfl, a3, len3, ok3, y3 _ _ hD3, (by show 3 ≤ 50; decide), hsh.same y3, fun Y3 z3 => ⟨true, rfl, ?_⟩⟩
    refine iteF ?_
    have w3 : Same Hv Y3 := y3.trans z3
    refine ⟨_, rfl, _, rfl, _, rfl, r, b, g, rfl, fun X4 q4 rows4 s4 n4 a4 len4 ok4 => ?_⟩
    have y4 : Same Hv X4 := w3.trans s4
    refine ⟨_, rfl, q4, D, 3, rows4, [r, b, g], rfl, a4, len4, ok4, y4 _ _ hD3, (by show 3 ≤ 50; decide), hsh.same y4, fun Y4 z4 => ⟨true, rfl, ?_⟩⟩
    refine iteF ?_
    have w4 : Same Hv Y4 := y4.trans z4
    exact hQ _ fun c o nc e => w4 _ _ (sHv _ _ nc e)
theorem scLaw : FnScope ["_law_script", "_law_k"] ["_law_script"] (defScope sLaw) := ⟨rfl, rfl, rfl, by decide +kernel, rfl, by decide +kernel, by decide +kernel⟩
theorem ok_law {fO fR : Addr} {fdO fdR : FuncData} (F : FnP K "law" sLaw f fd) (B : Bl mg) (FO : FnP K "_law_pot" sPot fO fdO) (gO : mg "_law_pot" = some (.ref fO))
    (GR : FnG P w K mg base CX0 3 fR fdR ["_law_pot_here"] spRight) (FR : FnP K "_law_right" sRight fR fdR) (gR : mg "_law_right" = some (.ref fR)) : FnG P w K mg base CX0 4 f fd ["_law_script"] (spLaw K) := by
  have GO : FnOk P w K mg base CX0 1 fO fdO ["_law_script", "_law_k"] (spPot K) := ok_pot FO B
  have bO : Binds K fdO ["_law_script", "_law_k"] [] := FO.bindsN fun _ _ _ _ _ _ us hl => match us, hl with | [_, _], _ => rfl
  have bR : Binds K fdR ["_law_pot_here"] [] := FR.bindsN fun _ _ _ _ _ _ us hl => match us, hl with | [_], _ => rfl
  refine F.okG scLaw (fun vs H Q E h => ?_) (fun cdv A outer s H vs Q E hg hr h => ?_)
  · obtain ⟨a, ns, rfl, _⟩ := h
    rfl
  · obtain ⟨a, ns, rfl, hS, hlen, hQ⟩ := h
    have hr1 : Room 1 _ := hr.mono (by decide)
    refine ⟨_, PSs.nox (pss_one (ps_ret (pe_callB (cr_all rfl) (by rfl) B.all (by decide +kernel) (pa_cons (pe_lc (own := [("_law_k", 1)]) (by rfl) scLaw.nd (pi_range1 (by rfl) B.range (pa_cons (pe_callB (call_max2 rfl) (by rfl) B.max (by decide +kernel) (pa_cons pe_int (pa_cons (pe_callB (call_min2 rfl) (by rfl) B.min (by decide +kernel) (pa_cons pe_int (pa_cons (pe_callB call_len_seq (by rfl) B.len (by decide +kernel) (pa_cons (pv 0) pa_nil)) pa_nil))) pa_nil))) pa_nil)) (blkOk_by (own := [("_law_k", 1)]) (N := ["_law_script", "_law_k"]) (sc := defScope sLaw) (by decide +kernel)) (fun _ _ _ _ _ => (pg_name (i := 1) scLaw.nd rfl (Or.inl rfl))) (fun _ _ _ _ _ => pts_nil) (fun _ _ _ _ _ => (pe_callG GR hg hr rfl gR FR.kp bR .nil pass0 (pa_cons (pe_call GO hr1 rfl gO FO.kp bO .nil pass0 (pa_cons (pv 0) (pa_cons (pv 1) pa_nil))) pa_nil)))) pa_nil)))), ?_⟩
    refine ⟨_, rfl, a, _, rfl, .inl hS, _, _, rfl, _, _, rfl, ?_⟩
    have hb : ∀ n : Nat, (if (if (n : Int) < 4 then (n : Int) else 4) > 1 then (if (n : Int) < 4 then (n : Int) else 4) else 1) ≤ 4 ∧ 1 ≤ (if (if (n : Int) < 4 then (n : Int) else 4) > 1 then (if (n : Int) < 4 then (n : Int) else 4) else 1) := fun n => by
      split <;> split <;> omega
    obtain ⟨b1, b2⟩ := hb (ns.map V.int).length
    generalize (if (if (((ns.map V.int).length : Nat) : Int) < 4 then (((ns.map V.int).length : Nat) : Int) else 4) > 1 then (if (((ns.map V.int).length : Nat) : Int) < 4 then (((ns.map V.int).length : Nat) : Int) else 4) else 1) = m at b1 b2 ⊢
    refine ⟨m, rfl, by omega, by omega, fun D hD => lc_range (lo := 0) (n := m.toNat) (fun n Hc => Same H Hc ∧ Hc D = some (.lst ((List.replicate n true).map V.bl))) ⟨same_upd hD, upd_same⟩ ?_ ?_⟩
    · rintro n Hc hn ⟨q1, q2⟩
      refine ⟨rfl, ⟨_, rfl, _, rfl, a, ns, _, rfl, q1.seq hS, by omega, by omega, fun p x y np hx hy hy2 => ?_⟩⟩
      have nDp : D ≠ p := ne_of_none q2 np
      refine ⟨p, x, y, rfl, upd_same, hx, hy, hy2, fun H' sb => ?_⟩
      have kD : H' D = some (.lst ((List.replicate n true).map V.bl)) := sb _ _ nDp (same_upd np _ _ q2)
      refine ⟨_, kD, ?_, ?_, ?_⟩
      · rw [List.length_map, List.length_replicate, sizeLine_eq]
        omega
      · intro c o e
        rw [upd_ne (ne_of_none e hD)]
        exact sb _ _ (ne_of_none (q1 _ _ e) np) (same_upd np _ _ (q1 _ _ e))
      · rw [upd_same, List.replicate_succ', List.map_append]
        rfl
    · rintro Hc ⟨q1, q2⟩
      refine ⟨D, List.replicate m.toNat true, rfl, SqL.of q2, ?_⟩
      have e : (List.replicate m.toNat true).all id = true := by simp
      rw [e]
      exact hQ _
end
end K14
end
section
set_option Elab.async false
set_option linter.all false
set_option maxRecDepth 100000
set_option maxHeartbeats 4000000
/-! LawG: the end of a law row for a law's def of the sort FnG -/
namespace L2
open PySem PySem.Spec PyProof.Rows
theorem law_callG {P : Program} {w : World} {K : PySem.W.Frag} {mg mb : Str → Option Value} {CX : CXT} {k : Nat} {fa a : Addr} {fd : FuncData} {x : Str} {sp : Sp} {s1 : Shared} {vs : List Value} {ns : List Int}
    (KX : K.In s1.heap) (hns : s1.heap.Ns mainGlobals mg) (hb : s1.heap.Ns builtinsNs mb) (hbb : ∀ x : Str, x ≠ "__name__" → mb x = bootBuiltins x) (hlim : s1.heap.NoLimit) (hg : s1.gens = #[])
    (ha : s1.heap.get? a = some { cls := .type "list", data := .seq vs.toArray }) (hi : IntsAre vs ns) (hl : ns.length ≤ sizeLine) (hr : Room k callerA)
    (F : ∀ base : Heap, K.In base → base.Ns mainGlobals mg → FnG P w K mg base CX k fa fd [x] sp) (hbind : ∀ (s : Shared) (u : Value), BindsTo s fd ⟨[u], []⟩ [(x, u)])
    (hsp : ∀ H : Hp, Only H → SqL K H a (ns.map V.int) → sp [.ref a] H (fun v _ => v = .bl true) fun _ _ _ => False)
    (hCX : ∀ H e s', CX [] H s1 (fun _ _ _ => False) e s' → False) :
    codeAny (model P w) callerA (.call (.ref fa) ⟨[.ref a], []⟩) (fun r s' => r = .ok (.ret (.bool true)) ∧ OldK s1.heap s'.heap ∧ s'.os = s1.os ∧ AllBare s'.gens) s1 := by
  have rv := vals_ints hi
  have lenV := hi.length
  have core : ∀ H : Hp, Only H → SqL K H a (ns.map V.int) → HOk P w H s1.heap → (∀ b, H b ≠ none → b = a) → (H a ≠ none → K.lookup a = none) →
      codeAny (model P w) callerA (.call (.ref fa) ⟨[.ref a], []⟩) (fun r s' => r = .ok (.ret (.bool true)) ∧ OldK s1.heap s'.heap ∧ s'.os = s1.os ∧ AllBare s'.gens) s1 := by
    intro H hO hS hok hA hK
    have noA : ∀ {b : Addr} {o : Obj} {es : Array DictEntry} {ep : Nat}, s1.heap.get? b = some o → o.data = .dict es ep → H b = none := fun {b o es ep} e d => by
      cases q : H b with
      | none => rfl
      | some u =>
        have e' : b = a := hA b (by rw [q]; simp)
        subst e'
        rw [ha] at e
        cases e
        have d' : Data.seq vs.toArray _ = Data.dict es ep := d
        cases d'
    have nsK : ∀ {b : Addr} {m : Str → Option Value}, s1.heap.Ns b m → (hidT s1.heap H).Ns b m := fun {b m} ⟨o, es, ep, e, d, r⟩ => ⟨o, es, ep, hidT_get e (noA e d), d, r⟩
    have hKb : K.In (hidT s1.heap H) := fun b o e => hidT_get (KX b o e) (by
      cases q : H b with
      | none => rfl
      | some u =>
        have e' : b = a := hA b (by rw [q]; simp)
        subst e'
        rw [hK (by rw [q]; simp)] at e
        cases e)
    have hM : Mod K mg (hidT s1.heap H) := ⟨hKb, nsK hns, ⟨mb, nsK hb, hbb⟩, let ⟨mc, h1, h2⟩ := hlim; ⟨mc, nsK h1, h2⟩⟩
    have e0 : Env0 P w K mg (hidT s1.heap H) callerA [] s1 H := ⟨rfl, hM, fun b o e => of_hidT e, Nat.le_of_eq (hidT_size _ _), trivial, fun b hb => absurd (show b ∈ ([] : List Addr) from hb) (by simp), hok, .of_eq hg⟩
    refine codeAny_mono ((F _ hKb (nsK hns)).run callerA [] s1 H ⟨[.ref a], []⟩ [.ref a] [.ref a] _ _ rfl hr e0 (hbind s1 (.ref a)) (.cons rfl .nil) (hsp H hO hS)) fun r s' h => ?_
    cases r with
    | error e => exact (hCX H e s' h).elim
    | ok fl =>
      cases fl with
      | next => exact False.elim h
      | brk => exact False.elim h
      | cont => exact False.elim h
      | ret u =>
        obtain ⟨v, H', os, bare, un, hok', r', q⟩ := h
        have q' : v = .bl true := q
        subst q'
        obtain rfl : u = Value.bool true := r'
        refine ⟨rfl, OldK.of_keep fun b o e => ?_, os, bare⟩
        cases q : H b with
        | none => exact un.keep b o e q (by intro z; exact absurd (show b ∈ ([] : List Addr) from z) (by simp)) (by simp)
        | some u =>
          rcases hO b with z | ⟨ob, xs, z⟩
          · rw [q] at z
            cases z
          · have z2 := un.frzs b ob _ z
            obtain ⟨e1, _⟩ := hok b _ z
            obtain ⟨e2, _⟩ := hok' b _ z2
            rw [e] at e1
            cases e1
            exact e2
  cases hk : K.lookup a with
  | some o =>
    have e := KX a o hk
    rw [ha] at e
    cases e
    refine core (fun _ => none) (fun _ => .inl rfl) (.inr ⟨_, vs.toArray, _, hk, rfl, rfl, rfl, by rw [List.size_toArray, lenV]; exact hl, by simpa using rv⟩) (fun b u z => by have z' : (none : Option HO) = some u := z; cases z') (fun b z => absurd rfl z) fun z => absurd rfl z
  | none =>
    refine core (fun b => if b = a then some (.frz { cls := .type "list", data := .seq vs.toArray } (.lst (ns.map V.int))) else none) (fun b => ?_) (.inl (.inr ⟨{ cls := .type "list", data := .seq vs.toArray }, if_pos rfl⟩)) (fun b u z => ?_) (fun b z => ?_) fun _ => hk
    · by_cases hb : b = a
      · exact .inr ⟨_, _, if_pos hb⟩
      · exact .inl (if_neg hb)
    · by_cases hb : b = a
      · have z' := (if_pos hb).symm.trans z
        cases z'
        subst hb
        exact ⟨ha, by rw [List.length_map]; exact hl, vs, _, rv, ha⟩
      · have z' := (if_neg hb).symm.trans z
        cases z'
    · by_cases hb : b = a
      · exact hb
      · exact absurd (if_neg hb) z
theorem walk_ofG {l : PySem.W.OpenLaw} {n k : Nat} {q : Program} {loose : List Str} {XP : (Str → Option Value) → Heap → Prop} {YP : World → Heap → Prop} {d : DefRec} {CX : CXT} {x : Str}
    (hn : l.most = some n) (hn2 : n ≤ sizeLine) (hdf : d.params.defaults = []) (hr : Room k callerA)
    (F : ∀ (w : World) (mg : Str → Option Value) (fa : Addr) (h : Heap), YP w h → h.Ns mainGlobals mg → mg d.name = some (.ref fa) →
      ∃ (K : PySem.W.Frag) (fd : FuncData) (sp : Sp), K.In h ∧ (∀ (s : Shared) (u : Value), BindsTo s fd ⟨[u], []⟩ [(x, u)]) ∧
        (∀ (H : Hp) (a : Addr) (ns : List Int), ns.length ≤ n → Only H → SqL K H a (ns.map V.int) → sp [.ref a] H (fun v _ => v = .bl true) fun _ _ _ => False) ∧
        ∀ base : Heap, K.In base → base.Ns mainGlobals mg → FnG l.prog w K mg base CX k fa fd [x] sp)
    (hCX : ∀ (H : Hp) (s : Shared) (e : Value) (s' : Shared), CX [] H s (fun _ _ _ => False) e s' → False) :
    PySem.W.WalkO q loose XP YP l.row.toRowW d [] (fun f vs => PySem.call f vs) := by
  refine Att.attach_call hn hdf fun w s0 s1 mg mb fa o pm cd doc a vs ns G Y ho hd hcd hmg hobj hints hlen hg => ?_
  obtain ⟨K, fd, sp, KX, hb, hsp, hF⟩ := F w mg fa _ Y G.T.g hmg
  exact law_callG KX G.T.g G.T.b G.T.builtins G.T.nolimit hg hobj hints (Nat.le_trans hlen hn2) hr hF hb (fun H hO hS => hsp H a ns hlen hO hS) fun H e s' => hCX H s1 e s'
end L2
end
section
set_option Elab.async false
set_option linter.all false
set_option maxRecDepth 100000
set_option maxHeartbeats 4000000
/-! HeadErr: what the head's part K says of error classes, as a Bool -/
namespace HE
open PySem PySem.W PySem.Spec PyProof.Rows L2 He PySem.EK
/-- one error class of the text: its name, that of its own base, its fields, the statement of its __init__ -/
structure InD where
  name : Str
  qual : Str
  base : Str
  fs : List Str
  st : Stmt
  B : String
  newId : String
  initId : String
def InD.bm (d : InD) : List Value := [.type d.B, .type "Exception", .type "BaseException", .type "object"]
abbrev InW : Type := Option (Str × Str × Arguments × FuncBody × Scope × Addr × Value × Addr)
def inW (K : Frag) (x : Str) : InW := match K.lookup (ma K (ga K x) "__init__") with
  | some ⟨_, _, .func fd, _⟩ => some (fd.name, fd.qualname, fd.params, fd.body, fd.scope, fd.globals, fd.defaults, fd.builtins)
  | _ => none
def InD.val (d : InD) : InW := some ("__init__", d.qual, defArgs d.st, .stmts (defBody d.st), defScope d.st, mainGlobals, .none, builtinsNs)
def clsB (K : Frag) (C : Addr) (rs : List Addr) (bmB : List Value) (newId : String) : Bool := match K.lookup C with
  | some ⟨.type "type", _, .cls cd, sl⟩ => (match sl.toList with
    | [_, _, _, _, some (.builtin n), _] => decide (cd.mro = .ref C :: (rs.map Value.ref ++ bmB)) && (decide (n = newId) && (!cd.hasDel && cd.hasDict))
    | _ => false)
  | _ => false
theorem clsB_ok {K : Frag} {C : Addr} {rs : List Addr} {bmB : List Value} {newId : String} (h : clsB K C rs bmB newId = true) :
    ∃ nm q N bs sn sub ab col dd k0 k1 k2 k3 k5, K.lookup C = some (excClassObj nm q C N bs (rs.map Value.ref ++ bmB) true sn sub ab col dd k0 k1 k2 k3 k5 newId) := by
  unfold clsB at h
  split at h
  · rename_i dd cd sl ho
    split at h
    · rename_i k0 k1 k2 k3 n k5 hs
      simp only [Bool.and_eq_true, decide_eq_true_eq, Bool.not_eq_true'] at h
      obtain ⟨hm, rfl, hdel, hhd⟩ := h
      obtain ⟨nm, bs, mro, ns, qn, hd, sn, sub, ab, col, del⟩ := cd
      dsimp only at hm hdel hhd
      subst hm hdel hhd
      have hsl : sl = #[k0, k1, k2, k3, some (.builtin n), k5] := by
        obtain ⟨l⟩ := sl
        simp only at hs
        rw [hs]
      subst hsl
      exact ⟨nm, qn, ns, bs, sn, sub, ab, col, dd, k0, k1, k2, k3, k5, ho⟩
    · cases h
  · cases h
def fileB (P : Program) (K : Frag) (cd : Value) : Bool := match cd with
  | .ref c => (match K.lookup c with
    | some ⟨_, _, .fields vs, _⟩ => (match (vs[2]? : Option Value) with
      | some (Value.str file _) => (P.main.file : Str) == file
      | _ => false)
    | _ => false)
  | _ => false
def cellB (K : Frag) (cl : List (Str × Addr)) (C : Addr) : Bool := match cl with
  | [(n, cc)] => decide (n = "__class__") && (match K.lookup cc with
    | some ⟨_, _, .cell (some (.ref D)), _⟩ => D == C
    | _ => false)
  | _ => false
def initB (P : Program) (K : Frag) (C : Addr) (f : Addr) : Bool := match K.lookup f with
  | some ⟨_, _, .func fd, _⟩ => codeIn K fd.code fd.qualname && (fileB P K fd.code && cellB K fd.closure C)
  | _ => false
def eqB (a b : Option Bool) : Bool := decide (a = b)
def eqV' (a b : Option Value) : Bool := decide (a = b)
/-- all but the text -/
def InD.ok (P : Program) (K : Frag) (d : InD) : Bool :=
  let C := ga K d.name
  eqO (nsIn K mainGlobals d.name) (some (some (.ref C))) && (clsB K C [ga K d.base] d.bm d.newId && (eqO (findIn K (.ref C) "__setattr__") (some (some (.builtin "object.__setattr__"))) &&
  (eqO (findIn K (.ref C) "__getattribute__") (some (some (.builtin "BaseException.__getattribute__"))) && (eqO (findIn K (.ref C) "__getattr__") (some none) && (d.fs.all (fun f => eqO (findIn K (.ref C) f) (some none)) &&
  (eqO (findIn K (.ref C) "__init__") (some (some (.ref (ma K C "__init__")))) && (eqV' (typeIn K (.ref (ma K C "__init__"))) (some (.type "function")) && (keepIn K (.ref C) &&
  (eqB (subIn K (.ref C) (.type "BaseException")) (some true) && (eqV' (typeIn K (.ref C)) (some (.type "type")) && (hasDictIn K C &&
  (eqO (nsIn K cStatics "thirdparty.any") (some none) && (eqO (ks_superIn K C C "__init__") (some (some (.builtin d.initId))) && (eqB (subIn K (.ref C) (.type d.B)) (some true) && initB P K C (ma K C "__init__")))))))))))))))
/-- what the text says of the __init__ -/
structure InT (d : InD) : Prop where
  few : d.fs.length ≤ 100
  ndb : ∀ f ∈ d.fs, (f == ("__debug__" : Str)) = false
  init : IsInit d.fs (defBody d.st)
  self : ∃ ar, ((defArgs d.st).posonlyargs ++ (defArgs d.st).args).head? = some ar ∧ ar.arg = "self"
  sup : (defScope d.st).names.lookup ("super" : Str) = some .globalImplicit
  cl : (defScope d.st).names.lookup ("__class__" : Str) = some .free
  slf : (defScope d.st).names.lookup ("self" : Str) = some .local
  loc : ∀ f ∈ d.fs, (defScope d.st).names.lookup f = some .local
  cell : ∀ x ∈ (defScope d.st).names, x.2 ≠ .cell
  co : (defScope d.st).isCoroutine = false
  gen : (defScope d.st).isGenerator = false
  kind : (defScope d.st).kind = .function
theorem errT_of {P : Program} {K : Frag} {d : InD} (bt : BaseT d.B d.newId d.initId d.bm) (top : (P.main.scope.names.lookup ("super" : Str)).isSome = false) (t : InT d) (h : d.ok P K = true) (e : inW K d.name = d.val) :
    ∃ qual kV doc pm an cda ct cc, ErrT P K (ga K d.name) (ma K (ga K d.name) "__init__") d.B d.newId d.initId d.bm [ga K d.base] d.fs (ksFn "__init__" qual (defArgs d.st) (defBody d.st) (defScope d.st) .none kV doc pm an (.ref cda) ct cc) := by
  obtain ⟨h1, h⟩ := ba h
  obtain ⟨h2, h⟩ := ba h
  obtain ⟨h3, h⟩ := ba h
  obtain ⟨h4, h⟩ := ba h
  obtain ⟨h5, h⟩ := ba h
  obtain ⟨h6, h⟩ := ba h
  obtain ⟨h7, h⟩ := ba h
  obtain ⟨h8, h⟩ := ba h
  obtain ⟨h9, h⟩ := ba h
  obtain ⟨h10, h⟩ := ba h
  obtain ⟨h11, h⟩ := ba h
  obtain ⟨h12, h⟩ := ba h
  obtain ⟨h13, h⟩ := ba h
  obtain ⟨h14, h⟩ := ba h
  obtain ⟨h15, h16⟩ := ba h
  unfold inW at e
  unfold initB at h16
  cases q : K.lookup (ma K (ga K d.name) "__init__") with
  | none =>
    rw [q] at h16
    cases h16
  | some o =>
    obtain ⟨oc, od, dt, osl⟩ := o
    rw [q] at h16 e
    cases dt with
    | func fd =>
      obtain ⟨n1, n2, n3, n4, n5, n6, n7, n8, n9, n10, n11, n12, n13, n14, n15⟩ := fd
      have e2 : (some (n1, n2, n3, n4, n5, n6, n8, n15) : InW) = some (Str.ofString "__init__", d.qual, defArgs d.st, FuncBody.stmts (defBody d.st), defScope d.st, mainGlobals, Value.none, builtinsNs) := e
      simp only [Option.some.injEq, Prod.mk.injEq] at e2
      obtain ⟨g1, g2, g3, g4, g5, g6, g7, g8⟩ := e2
      subst g1 g2 g3 g4 g5 g6 g7 g8
      have c3 : (codeIn K n13 d.qual && (fileB P K n13 && cellB K n7 (ga K d.name))) = true := h16
      obtain ⟨c4, c5⟩ := ba c3
      obtain ⟨c6, c7⟩ := ba c5
      unfold fileB at c6
      cases n13 with
      | ref cda =>
        cases q2 : K.lookup cda with
        | none =>
          simp only [q2] at c6
          cases c6
        | some o2 =>
          obtain ⟨oc2, od2, dt2, osl2⟩ := o2
          simp only [q2] at c6
          cases dt2 with
          | fields vs =>
            cases q3 : vs[2]? with
            | none =>
              simp only [q3] at c6
              cases c6
            | some fv =>
              cases fv with
              | str file tf =>
                simp only [q3] at c6
                unfold cellB at c7
                match n7, c7 with
                | [(n, cc)], c7 =>
                  obtain ⟨c8, c9⟩ := ba c7
                  have en : n = "__class__" := of_decide_eq_true c8
                  subst en
                  cases q4 : K.lookup cc with
                  | none =>
                    simp only [q4] at c9
                    cases c9
                  | some o4 =>
                    obtain ⟨oc4, od4, dt4, osl4⟩ := o4
                    simp only [q4] at c9
                    cases dt4 with
                    | cell v =>
                      cases v with
                      | none => cases c9
                      | some v =>
                        cases v with
                        | ref D =>
                          have eD : D = ga K d.name := beq_iff_eq.mp c9
                          subst eD
                          refine ⟨d.qual, n9, n10, n11, n12, cda, n14, cc, ⟨bt, clsB_ok h2, eqO_ok h3, eqO_ok h4, eqO_ok h5, fun f hf => eqO_ok (List.all_eq_true.mp h6 f hf), t.few, t.ndb, eqO_ok h7, of_decide_eq_true h8, h9, of_decide_eq_true h10, of_decide_eq_true h11, h12, eqO_ok h13, eqO_ok h14, of_decide_eq_true h15, top, ?_⟩⟩
                          exact ⟨oc, od, osl, d.qual, _, _, _, .none, n9, n10, n11, n12, cda, n14, cc, rfl, q, c4, ⟨_, _, _, _, file, tf, q2, q3, c6⟩, ⟨_, _, _, q4⟩, t.init, t.self, t.sup, t.cl, t.slf, t.loc, t.cell, t.co, t.gen, t.kind⟩
                        | _ => cases c9
                    | _ => cases c9
                | [], c7 => cases c7
                | _ :: _ :: _, c7 => cases c7
              | _ =>
                simp only [q3] at c6
                cases c6
          | _ => cases c6
      | _ => cases c6
    | _ => cases h16
end HE
end
section
set_option Elab.async false
set_option linter.all false
set_option maxRecDepth 100000
set_option maxHeartbeats 4000000
/-! HeadAs: the part K of the heap by paths, forced -/
namespace HE
open PySem PySem.W PySem.Spec PyProof.Rows L2 He
def ent (g : Addr → Option Obj) (a : Addr) (x : Str) : Option Value := match g a with
  | some ⟨_, _, .dict es _, _⟩ => (es.toList.find? (·.key.isStr x)).map (·.val)
  | _ => none
def rf : Option Value → Addr
  | some (.ref a) => a
  | _ => 0
/-- a def: itself, its code, its cells -/
def fnAs (g : Addr → Option Obj) (f : Addr) : List Addr := match g f with
  | some ⟨_, _, .func fd, _⟩ => f :: (refV fd.code ++ fd.closure.map (·.2))
  | _ => []
/-- a class: itself, its names, the methods ms -/
def clAs (g : Addr → Option Obj) (p : Str × List Str) : List Addr :=
  let C := rf (ent g mainGlobals p.1)
  match g C with
  | some ⟨_, _, .cls cd, _⟩ => C :: cd.ns :: p.2.flatMap fun m => fnAs g (rf (ent g cd.ns m))
  | _ => []
def pathAs (g : Addr → Option Obj) (cls : List (Str × List Str)) (fns : List Str) : List Addr := mainGlobals :: cStatics :: sysModules :: (cls.flatMap (clAs g) ++ fns.flatMap fun x => fnAs g (rf (ent g mainGlobals x)))
def frNats {α : Type} : List Nat → (List Nat → α) → α
  | [], k => k []
  | a :: r, k => HandSHeadRun.frNat a fun a => frNats r fun r => k (a :: r)
theorem frNats_eq {α : Type} : ∀ (l : List Nat) (k : List Nat → α), frNats l k = k l
  | [], _ => rfl
  | a :: r, k => by
    unfold frNats
    rw [HandSHeadRun.frNat_eq, frNats_eq r]
def frObj {α : Type} (o : Obj) (k : Obj → α) : α := match o with
  | ⟨c, d, dt, sl⟩ => (match dt with
    | .cls cd => (match cd with | ⟨a1, a2, a3, a4, a5, a6, a7, a8, a9, a10, a11⟩ => k ⟨c, d, .cls ⟨a1, a2, a3, a4, a5, a6, a7, a8, a9, a10, a11⟩, sl⟩)
    | dt => k ⟨c, d, dt, sl⟩)
theorem frObj_eq {α : Type} (o : Obj) (k : Obj → α) : frObj o k = k o := by
  obtain ⟨c, d, dt, sl⟩ := o
  cases dt <;> rfl
def frFrag {α : Type} (g : Addr → Option Obj) : List Nat → (Frag → α) → α
  | [], k => k []
  | a :: r, k => match g a with
    | some o => frObj o fun o => frFrag g r fun K => k ((a, o) :: K)
    | none => frFrag g r k
theorem frFrag_eq {α : Type} (g : Addr → Option Obj) : ∀ (as : List Nat) (k : Frag → α), frFrag g as k = k (frG g as)
  | [], _ => rfl
  | a :: r, k => by
    unfold frFrag frG
    rw [List.filterMap_cons]
    cases e : g a with
    | none =>
      simp only [Option.map_none]
      rw [frFrag_eq g r]
      rfl
    | some o =>
      simp only [Option.map_some]
      rw [frObj_eq, frFrag_eq g r]
      rfl
end HE
end
section
set_option Elab.async false
set_option linter.all false
set_option maxRecDepth 100000
set_option maxHeartbeats 0
/-! K14f: the head's facts -/
namespace K14
open PySem PySem.Spec PyProof.Rows L2 PySem.EK HE
def eInvalidKinds : InD := ⟨"InvalidKinds", "InvalidKinds.__init__", "FetchError", ["position"], inClass (top 2) 0, "ValueError", "ValueError.__new__", "ValueError.__init__"⟩
def eInvalidFields : InD := ⟨"InvalidFields", "InvalidFields.__init__", "FetchError", ["name"], inClass (top 3) 0, "ValueError", "ValueError.__new__", "ValueError.__init__"⟩
def eInvalidFlags : InD := ⟨"InvalidFlags", "InvalidFlags.__init__", "FetchError", ["name"], inClass (top 4) 0, "ValueError", "ValueError.__new__", "ValueError.__init__"⟩
def eInvalidSchema : InD := ⟨"InvalidSchema", "InvalidSchema.__init__", "FetchError", ["value"], inClass (top 5) 0, "ValueError", "ValueError.__new__", "ValueError.__init__"⟩
def eInvalidId : InD := ⟨"InvalidId", "InvalidId.__init__", "FetchError", ["value"], inClass (top 6) 0, "ValueError", "ValueError.__new__", "ValueError.__init__"⟩
def eInvalidRow : InD := ⟨"InvalidRow", "InvalidRow.__init__", "FetchError", ["name"], inClass (top 7) 0, "ValueError", "ValueError.__new__", "ValueError.__init__"⟩
def eInvalidRows : InD := ⟨"InvalidRows", "InvalidRows.__init__", "FetchError", ["position"], inClass (top 8) 0, "ValueError", "ValueError.__new__", "ValueError.__init__"⟩
def eInvalidStore : InD := ⟨"InvalidStore", "InvalidStore.__init__", "FetchError", ["value"], inClass (top 9) 0, "ValueError", "ValueError.__new__", "ValueError.__init__"⟩
def eInvalidWalk : InD := ⟨"InvalidWalk", "InvalidWalk.__init__", "FetchError", ["problem", "place"], inClass (top 10) 0, "ValueError", "ValueError.__new__", "ValueError.__init__"⟩
def eNoWalk : InD := ⟨"NoWalk", "NoWalk.__init__", "FetchError", ["value"], inClass (top 11) 0, "ValueError", "ValueError.__new__", "ValueError.__init__"⟩
def eInvalidRoots : InD := ⟨"InvalidRoots", "InvalidRoots.__init__", "FetchError", ["find"], inClass (top 12) 0, "ValueError", "ValueError.__new__", "ValueError.__init__"⟩
def eInvalidWord : InD := ⟨"InvalidWord", "InvalidWord.__init__", "FetchError", ["value"], inClass (top 13) 0, "ValueError", "ValueError.__new__", "ValueError.__init__"⟩
def eInvalidPlan : InD := ⟨"InvalidPlan", "InvalidPlan.__init__", "FetchError", ["value"], inClass (top 14) 0, "ValueError", "ValueError.__new__", "ValueError.__init__"⟩
def eInvalidLinks : InD := ⟨"InvalidLinks", "InvalidLinks.__init__", "FetchError", ["position"], inClass (top 15) 0, "ValueError", "ValueError.__new__", "ValueError.__init__"⟩
def eInvalidRoute : InD := ⟨"InvalidRoute", "InvalidRoute.__init__", "FetchError", ["value"], inClass (top 16) 0, "ValueError", "ValueError.__new__", "ValueError.__init__"⟩
def eInvalidPlace : InD := ⟨"InvalidPlace", "InvalidPlace.__init__", "FetchError", ["value"], inClass (top 17) 0, "ValueError", "ValueError.__new__", "ValueError.__init__"⟩
def eInvalidPlaces : InD := ⟨"InvalidPlaces", "InvalidPlaces.__init__", "FetchError", ["value"], inClass (top 18) 0, "ValueError", "ValueError.__new__", "ValueError.__init__"⟩
def eInvalidSizeName : InD := ⟨"InvalidSizeName", "InvalidSizeName.__init__", "FetchError", ["value"], inClass (top 19) 0, "ValueError", "ValueError.__new__", "ValueError.__init__"⟩
def eInvalidSize : InD := ⟨"InvalidSize", "InvalidSize.__init__", "FetchError", ["value"], inClass (top 20) 0, "ValueError", "ValueError.__new__", "ValueError.__init__"⟩
def eInvalidSizes : InD := ⟨"InvalidSizes", "InvalidSizes.__init__", "FetchError", ["value"], inClass (top 21) 0, "ValueError", "ValueError.__new__", "ValueError.__init__"⟩
def eInvalidNumber : InD := ⟨"InvalidNumber", "InvalidNumber.__init__", "FetchError", ["value"], inClass (top 22) 0, "ValueError", "ValueError.__new__", "ValueError.__init__"⟩
def eInvalidSum : InD := ⟨"InvalidSum", "InvalidSum.__init__", "FetchError", ["value"], inClass (top 23) 0, "ValueError", "ValueError.__new__", "ValueError.__init__"⟩
def eInvalidChange : InD := ⟨"InvalidChange", "InvalidChange.__init__", "FetchError", ["position"], inClass (top 24) 0, "ValueError", "ValueError.__new__", "ValueError.__init__"⟩
def eInvalidValue : InD := ⟨"InvalidValue", "InvalidValue.__init__", "FetchError", ["value"], inClass (top 25) 0, "ValueError", "ValueError.__new__", "ValueError.__init__"⟩
def eInvalidText : InD := ⟨"InvalidText", "InvalidText.__init__", "FetchError", ["line"], inClass (top 26) 0, "ValueError", "ValueError.__new__", "ValueError.__init__"⟩
def eInvalidClaim : InD := ⟨"InvalidClaim", "InvalidClaim.__init__", "FetchError", ["value"], inClass (top 27) 0, "ValueError", "ValueError.__new__", "ValueError.__init__"⟩
def eInvalidCommand : InD := ⟨"InvalidCommand", "InvalidCommand.__init__", "FetchError", ["value"], inClass (top 28) 0, "ValueError", "ValueError.__new__", "ValueError.__init__"⟩
def eUnknownKind : InD := ⟨"UnknownKind", "UnknownKind.__init__", "MissingError", ["value"], inClass (top 30) 0, "LookupError", "LookupError.__new__", "LookupError.__init__"⟩
def eUnknownLink : InD := ⟨"UnknownLink", "UnknownLink.__init__", "MissingError", ["value"], inClass (top 31) 0, "LookupError", "LookupError.__new__", "LookupError.__init__"⟩
def eUnknownObject : InD := ⟨"UnknownObject", "UnknownObject.__init__", "MissingError", ["kind", "number"], inClass (top 32) 0, "LookupError", "LookupError.__new__", "LookupError.__init__"⟩
def eUnknownTarget : InD := ⟨"UnknownTarget", "UnknownTarget.__init__", "MissingError", ["field", "number"], inClass (top 33) 0, "LookupError", "LookupError.__new__", "LookupError.__init__"⟩
def eUnknownSpot : InD := ⟨"UnknownSpot", "UnknownSpot.__init__", "MissingError", ["value"], inClass (top 34) 0, "LookupError", "LookupError.__new__", "LookupError.__init__"⟩
def eUnknownPath : InD := ⟨"UnknownPath", "UnknownPath.__init__", "MissingError", ["value"], inClass (top 35) 0, "LookupError", "LookupError.__new__", "LookupError.__init__"⟩
def eUnknownFind : InD := ⟨"UnknownFind", "UnknownFind.__init__", "MissingError", ["value"], inClass (top 36) 0, "LookupError", "LookupError.__new__", "LookupError.__init__"⟩
def eUnknownName : InD := ⟨"UnknownName", "UnknownName.__init__", "MissingError", ["value"], inClass (top 37) 0, "LookupError", "LookupError.__new__", "LookupError.__init__"⟩
def eTargetTaken : InD := ⟨"TargetTaken", "TargetTaken.__init__", "StateError", ["field", "number", "by"], inClass (top 39) 0, "RuntimeError", "RuntimeError.__new__", "RuntimeError.__init__"⟩
def eRowRefused : InD := ⟨"RowRefused", "RowRefused.__init__", "StateError", ["kind", "number"], inClass (top 40) 0, "RuntimeError", "RuntimeError.__new__", "RuntimeError.__init__"⟩
def eLinkRing : InD := ⟨"LinkRing", "LinkRing.__init__", "StateError", ["ring"], inClass (top 41) 0, "RuntimeError", "RuntimeError.__new__", "RuntimeError.__init__"⟩
def eWordRefused : InD := ⟨"WordRefused", "WordRefused.__init__", "StateError", ["link", "word"], inClass (top 42) 0, "RuntimeError", "RuntimeError.__new__", "RuntimeError.__init__"⟩
def eOtherSchema : InD := ⟨"OtherSchema", "OtherSchema.__init__", "StateError", [], inClass (top 43) 0, "RuntimeError", "RuntimeError.__new__", "RuntimeError.__init__"⟩
def eOtherFinds : InD := ⟨"OtherFinds", "OtherFinds.__init__", "StateError", ["one", "other"], inClass (top 44) 0, "RuntimeError", "RuntimeError.__new__", "RuntimeError.__init__"⟩
def eNameTaken : InD := ⟨"NameTaken", "NameTaken.__init__", "StateError", ["name"], inClass (top 45) 0, "RuntimeError", "RuntimeError.__new__", "RuntimeError.__init__"⟩
def eNotKept : InD := ⟨"NotKept", "NotKept.__init__", "StateError", ["kind", "number"], inClass (top 46) 0, "RuntimeError", "RuntimeError.__new__", "RuntimeError.__init__"⟩
def eChangesRefused : InD := ⟨"ChangesRefused", "ChangesRefused.__init__", "StateError", ["position"], inClass (top 47) 0, "RuntimeError", "RuntimeError.__new__", "RuntimeError.__init__"⟩
def eSaveRefused : InD := ⟨"SaveRefused", "SaveRefused.__init__", "StateError", ["first", "second"], inClass (top 48) 0, "RuntimeError", "RuntimeError.__new__", "RuntimeError.__init__"⟩
def eNothingToUndo : InD := ⟨"NothingToUndo", "NothingToUndo.__init__", "StateError", [], inClass (top 49) 0, "RuntimeError", "RuntimeError.__new__", "RuntimeError.__init__"⟩
def eCommandFailed : InD := ⟨"CommandFailed", "CommandFailed.__init__", "StateError", ["position"], inClass (top 50) 0, "RuntimeError", "RuntimeError.__new__", "RuntimeError.__init__"⟩
def eTooMany : InD := ⟨"TooMany", "TooMany.__init__", "LimitError", ["what", "limit"], inClass (top 52) 0, "ArithmeticError", "ArithmeticError.__new__", "ArithmeticError.__init__"⟩
theorem tInvalidKinds : InT eInvalidKinds := ⟨by decide, by decide +kernel, ⟨_, _, _, _, _, _, _, _, _, rfl, (.cons .nil), rfl⟩, ⟨_, rfl, rfl⟩, rfl, rfl, rfl, by decide +kernel, by decide +kernel, rfl, rfl, rfl⟩
theorem tInvalidFields : InT eInvalidFields := ⟨by decide, by decide +kernel, ⟨_, _, _, _, _, _, _, _, _, rfl, (.cons .nil), rfl⟩, ⟨_, rfl, rfl⟩, rfl, rfl, rfl, by decide +kernel, by decide +kernel, rfl, rfl, rfl⟩
theorem tInvalidFlags : InT eInvalidFlags := ⟨by decide, by decide +kernel, ⟨_, _, _, _, _, _, _, _, _, rfl, (.cons .nil), rfl⟩, ⟨_, rfl, rfl⟩, rfl, rfl, rfl, by decide +kernel, by decide +kernel, rfl, rfl, rfl⟩
theorem tInvalidSchema : InT eInvalidSchema := ⟨by decide, by decide +kernel, ⟨_, _, _, _, _, _, _, _, _, rfl, (.cons .nil), rfl⟩, ⟨_, rfl, rfl⟩, rfl, rfl, rfl, by decide +kernel, by decide +kernel, rfl, rfl, rfl⟩
theorem tInvalidId : InT eInvalidId := ⟨by decide, by decide +kernel, ⟨_, _, _, _, _, _, _, _, _, rfl, (.cons .nil), rfl⟩, ⟨_, rfl, rfl⟩, rfl, rfl, rfl, by decide +kernel, by decide +kernel, rfl, rfl, rfl⟩
theorem tInvalidRow : InT eInvalidRow := ⟨by decide, by decide +kernel, ⟨_, _, _, _, _, _, _, _, _, rfl, (.cons .nil), rfl⟩, ⟨_, rfl, rfl⟩, rfl, rfl, rfl, by decide +kernel, by decide +kernel, rfl, rfl, rfl⟩
theorem tInvalidRows : InT eInvalidRows := ⟨by decide, by decide +kernel, ⟨_, _, _, _, _, _, _, _, _, rfl, (.cons .nil), rfl⟩, ⟨_, rfl, rfl⟩, rfl, rfl, rfl, by decide +kernel, by decide +kernel, rfl, rfl, rfl⟩
theorem tInvalidStore : InT eInvalidStore := ⟨by decide, by decide +kernel, ⟨_, _, _, _, _, _, _, _, _, rfl, (.cons .nil), rfl⟩, ⟨_, rfl, rfl⟩, rfl, rfl, rfl, by decide +kernel, by decide +kernel, rfl, rfl, rfl⟩
theorem tInvalidWalk : InT eInvalidWalk := ⟨by decide, by decide +kernel, ⟨_, _, _, _, _, _, _, _, _, rfl, (.cons (.cons .nil)), rfl⟩, ⟨_, rfl, rfl⟩, rfl, rfl, rfl, by decide +kernel, by decide +kernel, rfl, rfl, rfl⟩
theorem tNoWalk : InT eNoWalk := ⟨by decide, by decide +kernel, ⟨_, _, _, _, _, _, _, _, _, rfl, (.cons .nil), rfl⟩, ⟨_, rfl, rfl⟩, rfl, rfl, rfl, by decide +kernel, by decide +kernel, rfl, rfl, rfl⟩
theorem tInvalidRoots : InT eInvalidRoots := ⟨by decide, by decide +kernel, ⟨_, _, _, _, _, _, _, _, _, rfl, (.cons .nil), rfl⟩, ⟨_, rfl, rfl⟩, rfl, rfl, rfl, by decide +kernel, by decide +kernel, rfl, rfl, rfl⟩
theorem tInvalidWord : InT eInvalidWord := ⟨by decide, by decide +kernel, ⟨_, _, _, _, _, _, _, _, _, rfl, (.cons .nil), rfl⟩, ⟨_, rfl, rfl⟩, rfl, rfl, rfl, by decide +kernel, by decide +kernel, rfl, rfl, rfl⟩
theorem tInvalidPlan : InT eInvalidPlan := ⟨by decide, by decide +kernel, ⟨_, _, _, _, _, _, _, _, _, rfl, (.cons .nil), rfl⟩, ⟨_, rfl, rfl⟩, rfl, rfl, rfl, by decide +kernel, by decide +kernel, rfl, rfl, rfl⟩
theorem tInvalidLinks : InT eInvalidLinks := ⟨by decide, by decide +kernel, ⟨_, _, _, _, _, _, _, _, _, rfl, (.cons .nil), rfl⟩, ⟨_, rfl, rfl⟩, rfl, rfl, rfl, by decide +kernel, by decide +kernel, rfl, rfl, rfl⟩
theorem tInvalidRoute : InT eInvalidRoute := ⟨by decide, by decide +kernel, ⟨_, _, _, _, _, _, _, _, _, rfl, (.cons .nil), rfl⟩, ⟨_, rfl, rfl⟩, rfl, rfl, rfl, by decide +kernel, by decide +kernel, rfl, rfl, rfl⟩
theorem tInvalidPlace : InT eInvalidPlace := ⟨by decide, by decide +kernel, ⟨_, _, _, _, _, _, _, _, _, rfl, (.cons .nil), rfl⟩, ⟨_, rfl, rfl⟩, rfl, rfl, rfl, by decide +kernel, by decide +kernel, rfl, rfl, rfl⟩
theorem tInvalidPlaces : InT eInvalidPlaces := ⟨by decide, by decide +kernel, ⟨_, _, _, _, _, _, _, _, _, rfl, (.cons .nil), rfl⟩, ⟨_, rfl, rfl⟩, rfl, rfl, rfl, by decide +kernel, by decide +kernel, rfl, rfl, rfl⟩
theorem tInvalidSizeName : InT eInvalidSizeName := ⟨by decide, by decide +kernel, ⟨_, _, _, _, _, _, _, _, _, rfl, (.cons .nil), rfl⟩, ⟨_, rfl, rfl⟩, rfl, rfl, rfl, by decide +kernel, by decide +kernel, rfl, rfl, rfl⟩
theorem tInvalidSize : InT eInvalidSize := ⟨by decide, by decide +kernel, ⟨_, _, _, _, _, _, _, _, _, rfl, (.cons .nil), rfl⟩, ⟨_, rfl, rfl⟩, rfl, rfl, rfl, by decide +kernel, by decide +kernel, rfl, rfl, rfl⟩
theorem tInvalidSizes : InT eInvalidSizes := ⟨by decide, by decide +kernel, ⟨_, _, _, _, _, _, _, _, _, rfl, (.cons .nil), rfl⟩, ⟨_, rfl, rfl⟩, rfl, rfl, rfl, by decide +kernel, by decide +kernel, rfl, rfl, rfl⟩
theorem tInvalidNumber : InT eInvalidNumber := ⟨by decide, by decide +kernel, ⟨_, _, _, _, _, _, _, _, _, rfl, (.cons .nil), rfl⟩, ⟨_, rfl, rfl⟩, rfl, rfl, rfl, by decide +kernel, by decide +kernel, rfl, rfl, rfl⟩
theorem tInvalidSum : InT eInvalidSum := ⟨by decide, by decide +kernel, ⟨_, _, _, _, _, _, _, _, _, rfl, (.cons .nil), rfl⟩, ⟨_, rfl, rfl⟩, rfl, rfl, rfl, by decide +kernel, by decide +kernel, rfl, rfl, rfl⟩
theorem tInvalidChange : InT eInvalidChange := ⟨by decide, by decide +kernel, ⟨_, _, _, _, _, _, _, _, _, rfl, (.cons .nil), rfl⟩, ⟨_, rfl, rfl⟩, rfl, rfl, rfl, by decide +kernel, by decide +kernel, rfl, rfl, rfl⟩
theorem tInvalidValue : InT eInvalidValue := ⟨by decide, by decide +kernel, ⟨_, _, _, _, _, _, _, _, _, rfl, (.cons .nil), rfl⟩, ⟨_, rfl, rfl⟩, rfl, rfl, rfl, by decide +kernel, by decide +kernel, rfl, rfl, rfl⟩
theorem tInvalidText : InT eInvalidText := ⟨by decide, by decide +kernel, ⟨_, _, _, _, _, _, _, _, _, rfl, (.cons .nil), rfl⟩, ⟨_, rfl, rfl⟩, rfl, rfl, rfl, by decide +kernel, by decide +kernel, rfl, rfl, rfl⟩
theorem tInvalidClaim : InT eInvalidClaim := ⟨by decide, by decide +kernel, ⟨_, _, _, _, _, _, _, _, _, rfl, (.cons .nil), rfl⟩, ⟨_, rfl, rfl⟩, rfl, rfl, rfl, by decide +kernel, by decide +kernel, rfl, rfl, rfl⟩
theorem tInvalidCommand : InT eInvalidCommand := ⟨by decide, by decide +kernel, ⟨_, _, _, _, _, _, _, _, _, rfl, (.cons .nil), rfl⟩, ⟨_, rfl, rfl⟩, rfl, rfl, rfl, by decide +kernel, by decide +kernel, rfl, rfl, rfl⟩
theorem tUnknownKind : InT eUnknownKind := ⟨by decide, by decide +kernel, ⟨_, _, _, _, _, _, _, _, _, rfl, (.cons .nil), rfl⟩, ⟨_, rfl, rfl⟩, rfl, rfl, rfl, by decide +kernel, by decide +kernel, rfl, rfl, rfl⟩
theorem tUnknownLink : InT eUnknownLink := ⟨by decide, by decide +kernel, ⟨_, _, _, _, _, _, _, _, _, rfl, (.cons .nil), rfl⟩, ⟨_, rfl, rfl⟩, rfl, rfl, rfl, by decide +kernel, by decide +kernel, rfl, rfl, rfl⟩
theorem tUnknownObject : InT eUnknownObject := ⟨by decide, by decide +kernel, ⟨_, _, _, _, _, _, _, _, _, rfl, (.cons (.cons .nil)), rfl⟩, ⟨_, rfl, rfl⟩, rfl, rfl, rfl, by decide +kernel, by decide +kernel, rfl, rfl, rfl⟩
theorem tUnknownTarget : InT eUnknownTarget := ⟨by decide, by decide +kernel, ⟨_, _, _, _, _, _, _, _, _, rfl, (.cons (.cons .nil)), rfl⟩, ⟨_, rfl, rfl⟩, rfl, rfl, rfl, by decide +kernel, by decide +kernel, rfl, rfl, rfl⟩
theorem tUnknownSpot : InT eUnknownSpot := ⟨by decide, by decide +kernel, ⟨_, _, _, _, _, _, _, _, _, rfl, (.cons .nil), rfl⟩, ⟨_, rfl, rfl⟩, rfl, rfl, rfl, by decide +kernel, by decide +kernel, rfl, rfl, rfl⟩
theorem tUnknownPath : InT eUnknownPath := ⟨by decide, by decide +kernel, ⟨_, _, _, _, _, _, _, _, _, rfl, (.cons .nil), rfl⟩, ⟨_, rfl, rfl⟩, rfl, rfl, rfl, by decide +kernel, by decide +kernel, rfl, rfl, rfl⟩
theorem tUnknownFind : InT eUnknownFind := ⟨by decide, by decide +kernel, ⟨_, _, _, _, _, _, _, _, _, rfl, (.cons .nil), rfl⟩, ⟨_, rfl, rfl⟩, rfl, rfl, rfl, by decide +kernel, by decide +kernel, rfl, rfl, rfl⟩
theorem tUnknownName : InT eUnknownName := ⟨by decide, by decide +kernel, ⟨_, _, _, _, _, _, _, _, _, rfl, (.cons .nil), rfl⟩, ⟨_, rfl, rfl⟩, rfl, rfl, rfl, by decide +kernel, by decide +kernel, rfl, rfl, rfl⟩
theorem tTargetTaken : InT eTargetTaken := ⟨by decide, by decide +kernel, ⟨_, _, _, _, _, _, _, _, _, rfl, (.cons (.cons (.cons .nil))), rfl⟩, ⟨_, rfl, rfl⟩, rfl, rfl, rfl, by decide +kernel, by decide +kernel, rfl, rfl, rfl⟩
theorem tRowRefused : InT eRowRefused := ⟨by decide, by decide +kernel, ⟨_, _, _, _, _, _, _, _, _, rfl, (.cons (.cons .nil)), rfl⟩, ⟨_, rfl, rfl⟩, rfl, rfl, rfl, by decide +kernel, by decide +kernel, rfl, rfl, rfl⟩
theorem tLinkRing : InT eLinkRing := ⟨by decide, by decide +kernel, ⟨_, _, _, _, _, _, _, _, _, rfl, (.cons .nil), rfl⟩, ⟨_, rfl, rfl⟩, rfl, rfl, rfl, by decide +kernel, by decide +kernel, rfl, rfl, rfl⟩
theorem tWordRefused : InT eWordRefused := ⟨by decide, by decide +kernel, ⟨_, _, _, _, _, _, _, _, _, rfl, (.cons (.cons .nil)), rfl⟩, ⟨_, rfl, rfl⟩, rfl, rfl, rfl, by decide +kernel, by decide +kernel, rfl, rfl, rfl⟩
theorem tOtherSchema : InT eOtherSchema := ⟨by decide, by decide +kernel, ⟨_, _, _, _, _, _, _, _, _, rfl, .nil, rfl⟩, ⟨_, rfl, rfl⟩, rfl, rfl, rfl, by decide +kernel, by decide +kernel, rfl, rfl, rfl⟩
theorem tOtherFinds : InT eOtherFinds := ⟨by decide, by decide +kernel, ⟨_, _, _, _, _, _, _, _, _, rfl, (.cons (.cons .nil)), rfl⟩, ⟨_, rfl, rfl⟩, rfl, rfl, rfl, by decide +kernel, by decide +kernel, rfl, rfl, rfl⟩
theorem tNameTaken : InT eNameTaken := ⟨by decide, by decide +kernel, ⟨_, _, _, _, _, _, _, _, _, rfl, (.cons .nil), rfl⟩, ⟨_, rfl, rfl⟩, rfl, rfl, rfl, by decide +kernel, by decide +kernel, rfl, rfl, rfl⟩
theorem tNotKept : InT eNotKept := ⟨by decide, by decide +kernel, ⟨_, _, _, _, _, _, _, _, _, rfl, (.cons (.cons .nil)), rfl⟩, ⟨_, rfl, rfl⟩, rfl, rfl, rfl, by decide +kernel, by decide +kernel, rfl, rfl, rfl⟩
theorem tChangesRefused : InT eChangesRefused := ⟨by decide, by decide +kernel, ⟨_, _, _, _, _, _, _, _, _, rfl, (.cons .nil), rfl⟩, ⟨_, rfl, rfl⟩, rfl, rfl, rfl, by decide +kernel, by decide +kernel, rfl, rfl, rfl⟩
theorem tSaveRefused : InT eSaveRefused := ⟨by decide, by decide +kernel, ⟨_, _, _, _, _, _, _, _, _, rfl, (.cons (.cons .nil)), rfl⟩, ⟨_, rfl, rfl⟩, rfl, rfl, rfl, by decide +kernel, by decide +kernel, rfl, rfl, rfl⟩
theorem tNothingToUndo : InT eNothingToUndo := ⟨by decide, by decide +kernel, ⟨_, _, _, _, _, _, _, _, _, rfl, .nil, rfl⟩, ⟨_, rfl, rfl⟩, rfl, rfl, rfl, by decide +kernel, by decide +kernel, rfl, rfl, rfl⟩
theorem tCommandFailed : InT eCommandFailed := ⟨by decide, by decide +kernel, ⟨_, _, _, _, _, _, _, _, _, rfl, (.cons .nil), rfl⟩, ⟨_, rfl, rfl⟩, rfl, rfl, rfl, by decide +kernel, by decide +kernel, rfl, rfl, rfl⟩
theorem tTooMany : InT eTooMany := ⟨by decide, by decide +kernel, ⟨_, _, _, _, _, _, _, _, _, rfl, (.cons (.cons .nil)), rfl⟩, ⟨_, rfl, rfl⟩, rfl, rfl, rfl, by decide +kernel, by decide +kernel, rfl, rfl, rfl⟩
theorem vals_rev : ∀ {vs : List V} {us : List Value}, Vals vs us → Vals vs.reverse us.reverse
  | _, _, .nil => .nil
  | _, _, .cons r t => by
    rw [List.reverse_cons, List.reverse_cons]
    exact (vals_rev t).append (.cons r .nil)
theorem pInvalidKinds {qual : Str} {kV doc pm : Value} {an : Option Addr} {cda : Addr} {ct : Value} {cc : Addr} : EB (PySem.W.ksFn "__init__" qual (defArgs eInvalidKinds.st) (defBody eInvalidKinds.st) (defScope eInvalidKinds.st) .none kV doc pm an (.ref cda) ct cc) ["position"] (["position"] : List Str).length [] (@gPos) :=
  ⟨fun s self us ws h1 h2 => match us, h1, ws, h2 with | [u0], _, [], _ => .of_eq rfl, by decide +kernel, by decide +kernel, fun r _ => r⟩
theorem kInvalidKinds {qual : Str} {kV doc pm : Value} {an : Option Addr} {cda : Addr} {ct : Value} {cc : Addr} : EB (PySem.W.ksFn "__init__" qual (defArgs eInvalidKinds.st) (defBody eInvalidKinds.st) (defScope eInvalidKinds.st) .none kV doc pm an (.ref cda) ct cc) ["position"] 0 (["position"] : List Str).reverse (@gKey) :=
  ⟨fun s self us ws h1 h2 => match us, h1, ws, h2 with | [], _, [u0], _ => .of_eq rfl, by decide +kernel, by decide +kernel, fun _ r => vals_rev r⟩
theorem pInvalidFields {qual : Str} {kV doc pm : Value} {an : Option Addr} {cda : Addr} {ct : Value} {cc : Addr} : EB (PySem.W.ksFn "__init__" qual (defArgs eInvalidFields.st) (defBody eInvalidFields.st) (defScope eInvalidFields.st) .none kV doc pm an (.ref cda) ct cc) ["name"] (["name"] : List Str).length [] (@gPos) :=
  ⟨fun s self us ws h1 h2 => match us, h1, ws, h2 with | [u0], _, [], _ => .of_eq rfl, by decide +kernel, by decide +kernel, fun r _ => r⟩
theorem kInvalidFields {qual : Str} {kV doc pm : Value} {an : Option Addr} {cda : Addr} {ct : Value} {cc : Addr} : EB (PySem.W.ksFn "__init__" qual (defArgs eInvalidFields.st) (defBody eInvalidFields.st) (defScope eInvalidFields.st) .none kV doc pm an (.ref cda) ct cc) ["name"] 0 (["name"] : List Str).reverse (@gKey) :=
  ⟨fun s self us ws h1 h2 => match us, h1, ws, h2 with | [], _, [u0], _ => .of_eq rfl, by decide +kernel, by decide +kernel, fun _ r => vals_rev r⟩
theorem pInvalidFlags {qual : Str} {kV doc pm : Value} {an : Option Addr} {cda : Addr} {ct : Value} {cc : Addr} : EB (PySem.W.ksFn "__init__" qual (defArgs eInvalidFlags.st) (defBody eInvalidFlags.st) (defScope eInvalidFlags.st) .none kV doc pm an (.ref cda) ct cc) ["name"] (["name"] : List Str).length [] (@gPos) :=
  ⟨fun s self us ws h1 h2 => match us, h1, ws, h2 with | [u0], _, [], _ => .of_eq rfl, by decide +kernel, by decide +kernel, fun r _ => r⟩
theorem kInvalidFlags {qual : Str} {kV doc pm : Value} {an : Option Addr} {cda : Addr} {ct : Value} {cc : Addr} : EB (PySem.W.ksFn "__init__" qual (defArgs eInvalidFlags.st) (defBody eInvalidFlags.st) (defScope eInvalidFlags.st) .none kV doc pm an (.ref cda) ct cc) ["name"] 0 (["name"] : List Str).reverse (@gKey) :=
  ⟨fun s self us ws h1 h2 => match us, h1, ws, h2 with | [], _, [u0], _ => .of_eq rfl, by decide +kernel, by decide +kernel, fun _ r => vals_rev r⟩
theorem pInvalidSchema {qual : Str} {kV doc pm : Value} {an : Option Addr} {cda : Addr} {ct : Value} {cc : Addr} : EB (PySem.W.ksFn "__init__" qual (defArgs eInvalidSchema.st) (defBody eInvalidSchema.st) (defScope eInvalidSchema.st) .none kV doc pm an (.ref cda) ct cc) ["value"] (["value"] : List Str).length [] (@gPos) :=
  ⟨fun s self us ws h1 h2 => match us, h1, ws, h2 with | [u0], _, [], _ => .of_eq rfl, by decide +kernel, by decide +kernel, fun r _ => r⟩
theorem kInvalidSchema {qual : Str} {kV doc pm : Value} {an : Option Addr} {cda : Addr} {ct : Value} {cc : Addr} : EB (PySem.W.ksFn "__init__" qual (defArgs eInvalidSchema.st) (defBody eInvalidSchema.st) (defScope eInvalidSchema.st) .none kV doc pm an (.ref cda) ct cc) ["value"] 0 (["value"] : List Str).reverse (@gKey) :=
  ⟨fun s self us ws h1 h2 => match us, h1, ws, h2 with | [], _, [u0], _ => .of_eq rfl, by decide +kernel, by decide +kernel, fun _ r => vals_rev r⟩
theorem pInvalidId {qual : Str} {kV doc pm : Value} {an : Option Addr} {cda : Addr} {ct : Value} {cc : Addr} : EB (PySem.W.ksFn "__init__" qual (defArgs eInvalidId.st) (defBody eInvalidId.st) (defScope eInvalidId.st) .none kV doc pm an (.ref cda) ct cc) ["value"] (["value"] : List Str).length [] (@gPos) :=
  ⟨fun s self us ws h1 h2 => match us, h1, ws, h2 with | [u0], _, [], _ => .of_eq rfl, by decide +kernel, by decide +kernel, fun r _ => r⟩
theorem kInvalidId {qual : Str} {kV doc pm : Value} {an : Option Addr} {cda : Addr} {ct : Value} {cc : Addr} : EB (PySem.W.ksFn "__init__" qual (defArgs eInvalidId.st) (defBody eInvalidId.st) (defScope eInvalidId.st) .none kV doc pm an (.ref cda) ct cc) ["value"] 0 (["value"] : List Str).reverse (@gKey) :=
  ⟨fun s self us ws h1 h2 => match us, h1, ws, h2 with | [], _, [u0], _ => .of_eq rfl, by decide +kernel, by decide +kernel, fun _ r => vals_rev r⟩
theorem pInvalidRow {qual : Str} {kV doc pm : Value} {an : Option Addr} {cda : Addr} {ct : Value} {cc : Addr} : EB (PySem.W.ksFn "__init__" qual (defArgs eInvalidRow.st) (defBody eInvalidRow.st) (defScope eInvalidRow.st) .none kV doc pm an (.ref cda) ct cc) ["name"] (["name"] : List Str).length [] (@gPos) :=
  ⟨fun s self us ws h1 h2 => match us, h1, ws, h2 with | [u0], _, [], _ => .of_eq rfl, by decide +kernel, by decide +kernel, fun r _ => r⟩
theorem kInvalidRow {qual : Str} {kV doc pm : Value} {an : Option Addr} {cda : Addr} {ct : Value} {cc : Addr} : EB (PySem.W.ksFn "__init__" qual (defArgs eInvalidRow.st) (defBody eInvalidRow.st) (defScope eInvalidRow.st) .none kV doc pm an (.ref cda) ct cc) ["name"] 0 (["name"] : List Str).reverse (@gKey) :=
  ⟨fun s self us ws h1 h2 => match us, h1, ws, h2 with | [], _, [u0], _ => .of_eq rfl, by decide +kernel, by decide +kernel, fun _ r => vals_rev r⟩
theorem pInvalidRows {qual : Str} {kV doc pm : Value} {an : Option Addr} {cda : Addr} {ct : Value} {cc : Addr} : EB (PySem.W.ksFn "__init__" qual (defArgs eInvalidRows.st) (defBody eInvalidRows.st) (defScope eInvalidRows.st) .none kV doc pm an (.ref cda) ct cc) ["position"] (["position"] : List Str).length [] (@gPos) :=
  ⟨fun s self us ws h1 h2 => match us, h1, ws, h2 with | [u0], _, [], _ => .of_eq rfl, by decide +kernel, by decide +kernel, fun r _ => r⟩
theorem kInvalidRows {qual : Str} {kV doc pm : Value} {an : Option Addr} {cda : Addr} {ct : Value} {cc : Addr} : EB (PySem.W.ksFn "__init__" qual (defArgs eInvalidRows.st) (defBody eInvalidRows.st) (defScope eInvalidRows.st) .none kV doc pm an (.ref cda) ct cc) ["position"] 0 (["position"] : List Str).reverse (@gKey) :=
  ⟨fun s self us ws h1 h2 => match us, h1, ws, h2 with | [], _, [u0], _ => .of_eq rfl, by decide +kernel, by decide +kernel, fun _ r => vals_rev r⟩
theorem pInvalidStore {qual : Str} {kV doc pm : Value} {an : Option Addr} {cda : Addr} {ct : Value} {cc : Addr} : EB (PySem.W.ksFn "__init__" qual (defArgs eInvalidStore.st) (defBody eInvalidStore.st) (defScope eInvalidStore.st) .none kV doc pm an (.ref cda) ct cc) ["value"] (["value"] : List Str).length [] (@gPos) :=
  ⟨fun s self us ws h1 h2 => match us, h1, ws, h2 with | [u0], _, [], _ => .of_eq rfl, by decide +kernel, by decide +kernel, fun r _ => r⟩
theorem kInvalidStore {qual : Str} {kV doc pm : Value} {an : Option Addr} {cda : Addr} {ct : Value} {cc : Addr} : EB (PySem.W.ksFn "__init__" qual (defArgs eInvalidStore.st) (defBody eInvalidStore.st) (defScope eInvalidStore.st) .none kV doc pm an (.ref cda) ct cc) ["value"] 0 (["value"] : List Str).reverse (@gKey) :=
  ⟨fun s self us ws h1 h2 => match us, h1, ws, h2 with | [], _, [u0], _ => .of_eq rfl, by decide +kernel, by decide +kernel, fun _ r => vals_rev r⟩
theorem pInvalidWalk {qual : Str} {kV doc pm : Value} {an : Option Addr} {cda : Addr} {ct : Value} {cc : Addr} : EB (PySem.W.ksFn "__init__" qual (defArgs eInvalidWalk.st) (defBody eInvalidWalk.st) (defScope eInvalidWalk.st) .none kV doc pm an (.ref cda) ct cc) ["problem", "place"] (["problem", "place"] : List Str).length [] (@gPos) :=
  ⟨fun s self us ws h1 h2 => match us, h1, ws, h2 with | [u0, u1], _, [], _ => .of_eq rfl, by decide +kernel, by decide +kernel, fun r _ => r⟩
theorem kInvalidWalk {qual : Str} {kV doc pm : Value} {an : Option Addr} {cda : Addr} {ct : Value} {cc : Addr} : EB (PySem.W.ksFn "__init__" qual (defArgs eInvalidWalk.st) (defBody eInvalidWalk.st) (defScope eInvalidWalk.st) .none kV doc pm an (.ref cda) ct cc) ["problem", "place"] 0 (["problem", "place"] : List Str).reverse (@gKey) :=
  ⟨fun s self us ws h1 h2 => match us, h1, ws, h2 with | [], _, [u1, u0], _ => .of_eq rfl, by decide +kernel, by decide +kernel, fun _ r => vals_rev r⟩
theorem pNoWalk {qual : Str} {kV doc pm : Value} {an : Option Addr} {cda : Addr} {ct : Value} {cc : Addr} : EB (PySem.W.ksFn "__init__" qual (defArgs eNoWalk.st) (defBody eNoWalk.st) (defScope eNoWalk.st) .none kV doc pm an (.ref cda) ct cc) ["value"] (["value"] : List Str).length [] (@gPos) :=
  ⟨fun s self us ws h1 h2 => match us, h1, ws, h2 with | [u0], _, [], _ => .of_eq rfl, by decide +kernel, by decide +kernel, fun r _ => r⟩
theorem kNoWalk {qual : Str} {kV doc pm : Value} {an : Option Addr} {cda : Addr} {ct : Value} {cc : Addr} : EB (PySem.W.ksFn "__init__" qual (defArgs eNoWalk.st) (defBody eNoWalk.st) (defScope eNoWalk.st) .none kV doc pm an (.ref cda) ct cc) ["value"] 0 (["value"] : List Str).reverse (@gKey) :=
  ⟨fun s self us ws h1 h2 => match us, h1, ws, h2 with | [], _, [u0], _ => .of_eq rfl, by decide +kernel, by decide +kernel, fun _ r => vals_rev r⟩
theorem pInvalidRoots {qual : Str} {kV doc pm : Value} {an : Option Addr} {cda : Addr} {ct : Value} {cc : Addr} : EB (PySem.W.ksFn "__init__" qual (defArgs eInvalidRoots.st) (defBody eInvalidRoots.st) (defScope eInvalidRoots.st) .none kV doc pm an (.ref cda) ct cc) ["find"] (["find"] : List Str).length [] (@gPos) :=
  ⟨fun s self us ws h1 h2 => match us, h1, ws, h2 with | [u0], _, [], _ => .of_eq rfl, by decide +kernel, by decide +kernel, fun r _ => r⟩
theorem kInvalidRoots {qual : Str} {kV doc pm : Value} {an : Option Addr} {cda : Addr} {ct : Value} {cc : Addr} : EB (PySem.W.ksFn "__init__" qual (defArgs eInvalidRoots.st) (defBody eInvalidRoots.st) (defScope eInvalidRoots.st) .none kV doc pm an (.ref cda) ct cc) ["find"] 0 (["find"] : List Str).reverse (@gKey) :=
  ⟨fun s self us ws h1 h2 => match us, h1, ws, h2 with | [], _, [u0], _ => .of_eq rfl, by decide +kernel, by decide +kernel, fun _ r => vals_rev r⟩
theorem pInvalidWord {qual : Str} {kV doc pm : Value} {an : Option Addr} {cda : Addr} {ct : Value} {cc : Addr} : EB (PySem.W.ksFn "__init__" qual (defArgs eInvalidWord.st) (defBody eInvalidWord.st) (defScope eInvalidWord.st) .none kV doc pm an (.ref cda) ct cc) ["value"] (["value"] : List Str).length [] (@gPos) :=
  ⟨fun s self us ws h1 h2 => match us, h1, ws, h2 with | [u0], _, [], _ => .of_eq rfl, by decide +kernel, by decide +kernel, fun r _ => r⟩
theorem kInvalidWord {qual : Str} {kV doc pm : Value} {an : Option Addr} {cda : Addr} {ct : Value} {cc : Addr} : EB (PySem.W.ksFn "__init__" qual (defArgs eInvalidWord.st) (defBody eInvalidWord.st) (defScope eInvalidWord.st) .none kV doc pm an (.ref cda) ct cc) ["value"] 0 (["value"] : List Str).reverse (@gKey) :=
  ⟨fun s self us ws h1 h2 => match us, h1, ws, h2 with | [], _, [u0], _ => .of_eq rfl, by decide +kernel, by decide +kernel, fun _ r => vals_rev r⟩
theorem pInvalidPlan {qual : Str} {kV doc pm : Value} {an : Option Addr} {cda : Addr} {ct : Value} {cc : Addr} : EB (PySem.W.ksFn "__init__" qual (defArgs eInvalidPlan.st) (defBody eInvalidPlan.st) (defScope eInvalidPlan.st) .none kV doc pm an (.ref cda) ct cc) ["value"] (["value"] : List Str).length [] (@gPos) :=
  ⟨fun s self us ws h1 h2 => match us, h1, ws, h2 with | [u0], _, [], _ => .of_eq rfl, by decide +kernel, by decide +kernel, fun r _ => r⟩
theorem kInvalidPlan {qual : Str} {kV doc pm : Value} {an : Option Addr} {cda : Addr} {ct : Value} {cc : Addr} : EB (PySem.W.ksFn "__init__" qual (defArgs eInvalidPlan.st) (defBody eInvalidPlan.st) (defScope eInvalidPlan.st) .none kV doc pm an (.ref cda) ct cc) ["value"] 0 (["value"] : List Str).reverse (@gKey) :=
  ⟨fun s self us ws h1 h2 => match us, h1, ws, h2 with | [], _, [u0], _ => .of_eq rfl, by decide +kernel, by decide +kernel, fun _ r => vals_rev r⟩
theorem pInvalidLinks {qual : Str} {kV doc pm : Value} {an : Option Addr} {cda : Addr} {ct : Value} {cc : Addr} : EB (PySem.W.ksFn "__init__" qual (defArgs eInvalidLinks.st) (defBody eInvalidLinks.st) (defScope eInvalidLinks.st) .none kV doc pm an (.ref cda) ct cc) ["position"] (["position"] : List Str).length [] (@gPos) :=
  ⟨fun s self us ws h1 h2 => match us, h1, ws, h2 with | [u0], _, [], _ => .of_eq rfl, by decide +kernel, by decide +kernel, fun r _ => r⟩
theorem kInvalidLinks {qual : Str} {kV doc pm : Value} {an : Option Addr} {cda : Addr} {ct : Value} {cc : Addr} : EB (PySem.W.ksFn "__init__" qual (defArgs eInvalidLinks.st) (defBody eInvalidLinks.st) (defScope eInvalidLinks.st) .none kV doc pm an (.ref cda) ct cc) ["position"] 0 (["position"] : List Str).reverse (@gKey) :=
  ⟨fun s self us ws h1 h2 => match us, h1, ws, h2 with | [], _, [u0], _ => .of_eq rfl, by decide +kernel, by decide +kernel, fun _ r => vals_rev r⟩
theorem pInvalidRoute {qual : Str} {kV doc pm : Value} {an : Option Addr} {cda : Addr} {ct : Value} {cc : Addr} : EB (PySem.W.ksFn "__init__" qual (defArgs eInvalidRoute.st) (defBody eInvalidRoute.st) (defScope eInvalidRoute.st) .none kV doc pm an (.ref cda) ct cc) ["value"] (["value"] : List Str).length [] (@gPos) :=
  ⟨fun s self us ws h1 h2 => match us, h1, ws, h2 with | [u0], _, [], _ => .of_eq rfl, by decide +kernel, by decide +kernel, fun r _ => r⟩
theorem kInvalidRoute {qual : Str} {kV doc pm : Value} {an : Option Addr} {cda : Addr} {ct : Value} {cc : Addr} : EB (PySem.W.ksFn "__init__" qual (defArgs eInvalidRoute.st) (defBody eInvalidRoute.st) (defScope eInvalidRoute.st) .none kV doc pm an (.ref cda) ct cc) ["value"] 0 (["value"] : List Str).reverse (@gKey) :=
  ⟨fun s self us ws h1 h2 => match us, h1, ws, h2 with | [], _, [u0], _ => .of_eq rfl, by decide +kernel, by decide +kernel, fun _ r => vals_rev r⟩
theorem pInvalidPlace {qual : Str} {kV doc pm : Value} {an : Option Addr} {cda : Addr} {ct : Value} {cc : Addr} : EB (PySem.W.ksFn "__init__" qual (defArgs eInvalidPlace.st) (defBody eInvalidPlace.st) (defScope eInvalidPlace.st) .none kV doc pm an (.ref cda) ct cc) ["value"] (["value"] : List Str).length [] (@gPos) :=
  ⟨fun s self us ws h1 h2 => match us, h1, ws, h2 with | [u0], _, [], _ => .of_eq rfl, by decide +kernel, by decide +kernel, fun r _ => r⟩
theorem kInvalidPlace {qual : Str} {kV doc pm : Value} {an : Option Addr} {cda : Addr} {ct : Value} {cc : Addr} : EB (PySem.W.ksFn "__init__" qual (defArgs eInvalidPlace.st) (defBody eInvalidPlace.st) (defScope eInvalidPlace.st) .none kV doc pm an (.ref cda) ct cc) ["value"] 0 (["value"] : List Str).reverse (@gKey) :=
  ⟨fun s self us ws h1 h2 => match us, h1, ws, h2 with | [], _, [u0], _ => .of_eq rfl, by decide +kernel, by decide +kernel, fun _ r => vals_rev r⟩
theorem pInvalidPlaces {qual : Str} {kV doc pm : Value} {an : Option Addr} {cda : Addr} {ct : Value} {cc : Addr} : EB (PySem.W.ksFn "__init__" qual (defArgs eInvalidPlaces.st) (defBody eInvalidPlaces.st) (defScope eInvalidPlaces.st) .none kV doc pm an (.ref cda) ct cc) ["value"] (["value"] : List Str).length [] (@gPos) :=
  ⟨fun s self us ws h1 h2 => match us, h1, ws, h2 with | [u0], _, [], _ => .of_eq rfl, by decide +kernel, by decide +kernel, fun r _ => r⟩
theorem kInvalidPlaces {qual : Str} {kV doc pm : Value} {an : Option Addr} {cda : Addr} {ct : Value} {cc : Addr} : EB (PySem.W.ksFn "__init__" qual (defArgs eInvalidPlaces.st) (defBody eInvalidPlaces.st) (defScope eInvalidPlaces.st) .none kV doc pm an (.ref cda) ct cc) ["value"] 0 (["value"] : List Str).reverse (@gKey) :=
  ⟨fun s self us ws h1 h2 => match us, h1, ws, h2 with | [], _, [u0], _ => .of_eq rfl, by decide +kernel, by decide +kernel, fun _ r => vals_rev r⟩
theorem pInvalidSizeName {qual : Str} {kV doc pm : Value} {an : Option Addr} {cda : Addr} {ct : Value} {cc : Addr} : EB (PySem.W.ksFn "__init__" qual (defArgs eInvalidSizeName.st) (defBody eInvalidSizeName.st) (defScope eInvalidSizeName.st) .none kV doc pm an (.ref cda) ct cc) ["value"] (["value"] : List Str).length [] (@gPos) :=
  ⟨fun s self us ws h1 h2 => match us, h1, ws, h2 with | [u0], _, [], _ => .of_eq rfl, by decide +kernel, by decide +kernel, fun r _ => r⟩
theorem kInvalidSizeName {qual : Str} {kV doc pm : Value} {an : Option Addr} {cda : Addr} {ct : Value} {cc : Addr} : EB (PySem.W.ksFn "__init__" qual (defArgs eInvalidSizeName.st) (defBody eInvalidSizeName.st) (defScope eInvalidSizeName.st) .none kV doc pm an (.ref cda) ct cc) ["value"] 0 (["value"] : List Str).reverse (@gKey) :=
  ⟨fun s self us ws h1 h2 => match us, h1, ws, h2 with | [], _, [u0], _ => .of_eq rfl, by decide +kernel, by decide +kernel, fun _ r => vals_rev r⟩
theorem pInvalidSize {qual : Str} {kV doc pm : Value} {an : Option Addr} {cda : Addr} {ct : Value} {cc : Addr} : EB (PySem.W.ksFn "__init__" qual (defArgs eInvalidSize.st) (defBody eInvalidSize.st) (defScope eInvalidSize.st) .none kV doc pm an (.ref cda) ct cc) ["value"] (["value"] : List Str).length [] (@gPos) :=
  ⟨fun s self us ws h1 h2 => match us, h1, ws, h2 with | [u0], _, [], _ => .of_eq rfl, by decide +kernel, by decide +kernel, fun r _ => r⟩
theorem kInvalidSize {qual : Str} {kV doc pm : Value} {an : Option Addr} {cda : Addr} {ct : Value} {cc : Addr} : EB (PySem.W.ksFn "__init__" qual (defArgs eInvalidSize.st) (defBody eInvalidSize.st) (defScope eInvalidSize.st) .none kV doc pm an (.ref cda) ct cc) ["value"] 0 (["value"] : List Str).reverse (@gKey) :=
  ⟨fun s self us ws h1 h2 => match us, h1, ws, h2 with | [], _, [u0], _ => .of_eq rfl, by decide +kernel, by decide +kernel, fun _ r => vals_rev r⟩
theorem pInvalidSizes {qual : Str} {kV doc pm : Value} {an : Option Addr} {cda : Addr} {ct : Value} {cc : Addr} : EB (PySem.W.ksFn "__init__" qual (defArgs eInvalidSizes.st) (defBody eInvalidSizes.st) (defScope eInvalidSizes.st) .none kV doc pm an (.ref cda) ct cc) ["value"] (["value"] : List Str).length [] (@gPos) :=
  ⟨fun s self us ws h1 h2 => match us, h1, ws, h2 with | [u0], _, [], _ => .of_eq rfl, by decide +kernel, by decide +kernel, fun r _ => r⟩
theorem kInvalidSizes {qual : Str} {kV doc pm : Value} {an : Option Addr} {cda : Addr} {ct : Value} {cc : Addr} : EB (PySem.W.ksFn "__init__" qual (defArgs eInvalidSizes.st) (defBody eInvalidSizes.st) (defScope eInvalidSizes.st) .none kV doc pm an (.ref cda) ct cc) ["value"] 0 (["value"] : List Str).reverse (@gKey) :=
  ⟨fun s self us ws h1 h2 => match us, h1, ws, h2 with | [], _, [u0], _ => .of_eq rfl, by decide +kernel, by decide +kernel, fun _ r => vals_rev r⟩
theorem pInvalidNumber {qual : Str} {kV doc pm : Value} {an : Option Addr} {cda : Addr} {ct : Value} {cc : Addr} : EB (PySem.W.ksFn "__init__" qual (defArgs eInvalidNumber.st) (defBody eInvalidNumber.st) (defScope eInvalidNumber.st) .none kV doc pm an (.ref cda) ct cc) ["value"] (["value"] : List Str).length [] (@gPos) :=
  ⟨fun s self us ws h1 h2 => match us, h1, ws, h2 with | [u0], _, [], _ => .of_eq rfl, by decide +kernel, by decide +kernel, fun r _ => r⟩
theorem kInvalidNumber {qual : Str} {kV doc pm : Value} {an : Option Addr} {cda : Addr} {ct : Value} {cc : Addr} : EB (PySem.W.ksFn "__init__" qual (defArgs eInvalidNumber.st) (defBody eInvalidNumber.st) (defScope eInvalidNumber.st) .none kV doc pm an (.ref cda) ct cc) ["value"] 0 (["value"] : List Str).reverse (@gKey) :=
  ⟨fun s self us ws h1 h2 => match us, h1, ws, h2 with | [], _, [u0], _ => .of_eq rfl, by decide +kernel, by decide +kernel, fun _ r => vals_rev r⟩
theorem pInvalidSum {qual : Str} {kV doc pm : Value} {an : Option Addr} {cda : Addr} {ct : Value} {cc : Addr} : EB (PySem.W.ksFn "__init__" qual (defArgs eInvalidSum.st) (defBody eInvalidSum.st) (defScope eInvalidSum.st) .none kV doc pm an (.ref cda) ct cc) ["value"] (["value"] : List Str).length [] (@gPos) :=
  ⟨fun s self us ws h1 h2 => match us, h1, ws, h2 with | [u0], _, [], _ => .of_eq rfl, by decide +kernel, by decide +kernel, fun r _ => r⟩
theorem kInvalidSum {qual : Str} {kV doc pm : Value} {an : Option Addr} {cda : Addr} {ct : Value} {cc : Addr} : EB (PySem.W.ksFn "__init__" qual (defArgs eInvalidSum.st) (defBody eInvalidSum.st) (defScope eInvalidSum.st) .none kV doc pm an (.ref cda) ct cc) ["value"] 0 (["value"] : List Str).reverse (@gKey) :=
  ⟨fun s self us ws h1 h2 => match us, h1, ws, h2 with | [], _, [u0], _ => .of_eq rfl, by decide +kernel, by decide +kernel, fun _ r => vals_rev r⟩
theorem pInvalidChange {qual : Str} {kV doc pm : Value} {an : Option Addr} {cda : Addr} {ct : Value} {cc : Addr} : EB (PySem.W.ksFn "__init__" qual (defArgs eInvalidChange.st) (defBody eInvalidChange.st) (defScope eInvalidChange.st) .none kV doc pm an (.ref cda) ct cc) ["position"] (["position"] : List Str).length [] (@gPos) :=
  ⟨fun s self us ws h1 h2 => match us, h1, ws, h2 with | [u0], _, [], _ => .of_eq rfl, by decide +kernel, by decide +kernel, fun r _ => r⟩
theorem kInvalidChange {qual : Str} {kV doc pm : Value} {an : Option Addr} {cda : Addr} {ct : Value} {cc : Addr} : EB (PySem.W.ksFn "__init__" qual (defArgs eInvalidChange.st) (defBody eInvalidChange.st) (defScope eInvalidChange.st) .none kV doc pm an (.ref cda) ct cc) ["position"] 0 (["position"] : List Str).reverse (@gKey) :=
  ⟨fun s self us ws h1 h2 => match us, h1, ws, h2 with | [], _, [u0], _ => .of_eq rfl, by decide +kernel, by decide +kernel, fun _ r => vals_rev r⟩
theorem pInvalidValue {qual : Str} {kV doc pm : Value} {an : Option Addr} {cda : Addr} {ct : Value} {cc : Addr} : EB (PySem.W.ksFn "__init__" qual (defArgs eInvalidValue.st) (defBody eInvalidValue.st) (defScope eInvalidValue.st) .none kV doc pm an (.ref cda) ct cc) ["value"] (["value"] : List Str).length [] (@gPos) :=
  ⟨fun s self us ws h1 h2 => match us, h1, ws, h2 with | [u0], _, [], _ => .of_eq rfl, by decide +kernel, by decide +kernel, fun r _ => r⟩
theorem kInvalidValue {qual : Str} {kV doc pm : Value} {an : Option Addr} {cda : Addr} {ct : Value} {cc : Addr} : EB (PySem.W.ksFn "__init__" qual (defArgs eInvalidValue.st) (defBody eInvalidValue.st) (defScope eInvalidValue.st) .none kV doc pm an (.ref cda) ct cc) ["value"] 0 (["value"] : List Str).reverse (@gKey) :=
  ⟨fun s self us ws h1 h2 => match us, h1, ws, h2 with | [], _, [u0], _ => .of_eq rfl, by decide +kernel, by decide +kernel, fun _ r => vals_rev r⟩
theorem pInvalidText {qual : Str} {kV doc pm : Value} {an : Option Addr} {cda : Addr} {ct : Value} {cc : Addr} : EB (PySem.W.ksFn "__init__" qual (defArgs eInvalidText.st) (defBody eInvalidText.st) (defScope eInvalidText.st) .none kV doc pm an (.ref cda) ct cc) ["line"] (["line"] : List Str).length [] (@gPos) :=
  ⟨fun s self us ws h1 h2 => match us, h1, ws, h2 with | [u0], _, [], _ => .of_eq rfl, by decide +kernel, by decide +kernel, fun r _ => r⟩
theorem kInvalidText {qual : Str} {kV doc pm : Value} {an : Option Addr} {cda : Addr} {ct : Value} {cc : Addr} : EB (PySem.W.ksFn "__init__" qual (defArgs eInvalidText.st) (defBody eInvalidText.st) (defScope eInvalidText.st) .none kV doc pm an (.ref cda) ct cc) ["line"] 0 (["line"] : List Str).reverse (@gKey) :=
  ⟨fun s self us ws h1 h2 => match us, h1, ws, h2 with | [], _, [u0], _ => .of_eq rfl, by decide +kernel, by decide +kernel, fun _ r => vals_rev r⟩
theorem pInvalidClaim {qual : Str} {kV doc pm : Value} {an : Option Addr} {cda : Addr} {ct : Value} {cc : Addr} : EB (PySem.W.ksFn "__init__" qual (defArgs eInvalidClaim.st) (defBody eInvalidClaim.st) (defScope eInvalidClaim.st) .none kV doc pm an (.ref cda) ct cc) ["value"] (["value"] : List Str).length [] (@gPos) :=
  ⟨fun s self us ws h1 h2 => match us, h1, ws, h2 with | [u0], _, [], _ => .of_eq rfl, by decide +kernel, by decide +kernel, fun r _ => r⟩
theorem kInvalidClaim {qual : Str} {kV doc pm : Value} {an : Option Addr} {cda : Addr} {ct : Value} {cc : Addr} : EB (PySem.W.ksFn "__init__" qual (defArgs eInvalidClaim.st) (defBody eInvalidClaim.st) (defScope eInvalidClaim.st) .none kV doc pm an (.ref cda) ct cc) ["value"] 0 (["value"] : List Str).reverse (@gKey) :=
  ⟨fun s self us ws h1 h2 => match us, h1, ws, h2 with | [], _, [u0], _ => .of_eq rfl, by decide +kernel, by decide +kernel, fun _ r => vals_rev r⟩
theorem pInvalidCommand {qual : Str} {kV doc pm : Value} {an : Option Addr} {cda : Addr} {ct : Value} {cc : Addr} : EB (PySem.W.ksFn "__init__" qual (defArgs eInvalidCommand.st) (defBody eInvalidCommand.st) (defScope eInvalidCommand.st) .none kV doc pm an (.ref cda) ct cc) ["value"] (["value"] : List Str).length [] (@gPos) :=
  ⟨fun s self us ws h1 h2 => match us, h1, ws, h2 with | [u0], _, [], _ => .of_eq rfl, by decide +kernel, by decide +kernel, fun r _ => r⟩
theorem kInvalidCommand {qual : Str} {kV doc pm : Value} {an : Option Addr} {cda : Addr} {ct : Value} {cc : Addr} : EB (PySem.W.ksFn "__init__" qual (defArgs eInvalidCommand.st) (defBody eInvalidCommand.st) (defScope eInvalidCommand.st) .none kV doc pm an (.ref cda) ct cc) ["value"] 0 (["value"] : List Str).reverse (@gKey) :=
  ⟨fun s self us ws h1 h2 => match us, h1, ws, h2 with | [], _, [u0], _ => .of_eq rfl, by decide +kernel, by decide +kernel, fun _ r => vals_rev r⟩
theorem pUnknownKind {qual : Str} {kV doc pm : Value} {an : Option Addr} {cda : Addr} {ct : Value} {cc : Addr} : EB (PySem.W.ksFn "__init__" qual (defArgs eUnknownKind.st) (defBody eUnknownKind.st) (defScope eUnknownKind.st) .none kV doc pm an (.ref cda) ct cc) ["value"] (["value"] : List Str).length [] (@gPos) :=
  ⟨fun s self us ws h1 h2 => match us, h1, ws, h2 with | [u0], _, [], _ => .of_eq rfl, by decide +kernel, by decide +kernel, fun r _ => r⟩
theorem kUnknownKind {qual : Str} {kV doc pm : Value} {an : Option Addr} {cda : Addr} {ct : Value} {cc : Addr} : EB (PySem.W.ksFn "__init__" qual (defArgs eUnknownKind.st) (defBody eUnknownKind.st) (defScope eUnknownKind.st) .none kV doc pm an (.ref cda) ct cc) ["value"] 0 (["value"] : List Str).reverse (@gKey) :=
  ⟨fun s self us ws h1 h2 => match us, h1, ws, h2 with | [], _, [u0], _ => .of_eq rfl, by decide +kernel, by decide +kernel, fun _ r => vals_rev r⟩
theorem pUnknownLink {qual : Str} {kV doc pm : Value} {an : Option Addr} {cda : Addr} {ct : Value} {cc : Addr} : EB (PySem.W.ksFn "__init__" qual (defArgs eUnknownLink.st) (defBody eUnknownLink.st) (defScope eUnknownLink.st) .none kV doc pm an (.ref cda) ct cc) ["value"] (["value"] : List Str).length [] (@gPos) :=
  ⟨fun s self us ws h1 h2 => match us, h1, ws, h2 with | [u0], _, [], _ => .of_eq rfl, by decide +kernel, by decide +kernel, fun r _ => r⟩
theorem kUnknownLink {qual : Str} {kV doc pm : Value} {an : Option Addr} {cda : Addr} {ct : Value} {cc : Addr} : EB (PySem.W.ksFn "__init__" qual (defArgs eUnknownLink.st) (defBody eUnknownLink.st) (defScope eUnknownLink.st) .none kV doc pm an (.ref cda) ct cc) ["value"] 0 (["value"] : List Str).reverse (@gKey) :=
  ⟨fun s self us ws h1 h2 => match us, h1, ws, h2 with | [], _, [u0], _ => .of_eq rfl, by decide +kernel, by decide +kernel, fun _ r => vals_rev r⟩
theorem pUnknownObject {qual : Str} {kV doc pm : Value} {an : Option Addr} {cda : Addr} {ct : Value} {cc : Addr} : EB (PySem.W.ksFn "__init__" qual (defArgs eUnknownObject.st) (defBody eUnknownObject.st) (defScope eUnknownObject.st) .none kV doc pm an (.ref cda) ct cc) ["kind", "number"] (["kind", "number"] : List Str).length [] (@gPos) :=
  ⟨fun s self us ws h1 h2 => match us, h1, ws, h2 with | [u0, u1], _, [], _ => .of_eq rfl, by decide +kernel, by decide +kernel, fun r _ => r⟩
theorem kUnknownObject {qual : Str} {kV doc pm : Value} {an : Option Addr} {cda : Addr} {ct : Value} {cc : Addr} : EB (PySem.W.ksFn "__init__" qual (defArgs eUnknownObject.st) (defBody eUnknownObject.st) (defScope eUnknownObject.st) .none kV doc pm an (.ref cda) ct cc) ["kind", "number"] 0 (["kind", "number"] : List Str).reverse (@gKey) :=
  ⟨fun s self us ws h1 h2 => match us, h1, ws, h2 with | [], _, [u1, u0], _ => .of_eq rfl, by decide +kernel, by decide +kernel, fun _ r => vals_rev r⟩
theorem pUnknownTarget {qual : Str} {kV doc pm : Value} {an : Option Addr} {cda : Addr} {ct : Value} {cc : Addr} : EB (PySem.W.ksFn "__init__" qual (defArgs eUnknownTarget.st) (defBody eUnknownTarget.st) (defScope eUnknownTarget.st) .none kV doc pm an (.ref cda) ct cc) ["field", "number"] (["field", "number"] : List Str).length [] (@gPos) :=
  ⟨fun s self us ws h1 h2 => match us, h1, ws, h2 with | [u0, u1], _, [], _ => .of_eq rfl, by decide +kernel, by decide +kernel, fun r _ => r⟩
theorem kUnknownTarget {qual : Str} {kV doc pm : Value} {an : Option Addr} {cda : Addr} {ct : Value} {cc : Addr} : EB (PySem.W.ksFn "__init__" qual (defArgs eUnknownTarget.st) (defBody eUnknownTarget.st) (defScope eUnknownTarget.st) .none kV doc pm an (.ref cda) ct cc) ["field", "number"] 0 (["field", "number"] : List Str).reverse (@gKey) :=
  ⟨fun s self us ws h1 h2 => match us, h1, ws, h2 with | [], _, [u1, u0], _ => .of_eq rfl, by decide +kernel, by decide +kernel, fun _ r => vals_rev r⟩
theorem pUnknownSpot {qual : Str} {kV doc pm : Value} {an : Option Addr} {cda : Addr} {ct : Value} {cc : Addr} : EB (PySem.W.ksFn "__init__" qual (defArgs eUnknownSpot.st) (defBody eUnknownSpot.st) (defScope eUnknownSpot.st) .none kV doc pm an (.ref cda) ct cc) ["value"] (["value"] : List Str).length [] (@gPos) :=
  ⟨fun s self us ws h1 h2 => match us, h1, ws, h2 with | [u0], _, [], _ => .of_eq rfl, by decide +kernel, by decide +kernel, fun r _ => r⟩
theorem kUnknownSpot {qual : Str} {kV doc pm : Value} {an : Option Addr} {cda : Addr} {ct : Value} {cc : Addr} : EB (PySem.W.ksFn "__init__" qual (defArgs eUnknownSpot.st) (defBody eUnknownSpot.st) (defScope eUnknownSpot.st) .none kV doc pm an (.ref cda) ct cc) ["value"] 0 (["value"] : List Str).reverse (@gKey) :=
  ⟨fun s self us ws h1 h2 => match us, h1, ws, h2 with | [], _, [u0], _ => .of_eq rfl, by decide +kernel, by decide +kernel, fun _ r => vals_rev r⟩
theorem pUnknownPath {qual : Str} {kV doc pm : Value} {an : Option Addr} {cda : Addr} {ct : Value} {cc : Addr} : EB (PySem.W.ksFn "__init__" qual (defArgs eUnknownPath.st) (defBody eUnknownPath.st) (defScope eUnknownPath.st) .none kV doc pm an (.ref cda) ct cc) ["value"] (["value"] : List Str).length [] (@gPos) :=
  ⟨fun s self us ws h1 h2 => match us, h1, ws, h2 with | [u0], _, [], _ => .of_eq rfl, by decide +kernel, by decide +kernel, fun r _ => r⟩
theorem kUnknownPath {qual : Str} {kV doc pm : Value} {an : Option Addr} {cda : Addr} {ct : Value} {cc : Addr} : EB (PySem.W.ksFn "__init__" qual (defArgs eUnknownPath.st) (defBody eUnknownPath.st) (defScope eUnknownPath.st) .none kV doc pm an (.ref cda) ct cc) ["value"] 0 (["value"] : List Str).reverse (@gKey) :=
  ⟨fun s self us ws h1 h2 => match us, h1, ws, h2 with | [], _, [u0], _ => .of_eq rfl, by decide +kernel, by decide +kernel, fun _ r => vals_rev r⟩
theorem pUnknownFind {qual : Str} {kV doc pm : Value} {an : Option Addr} {cda : Addr} {ct : Value} {cc : Addr} : EB (PySem.W.ksFn "__init__" qual (defArgs eUnknownFind.st) (defBody eUnknownFind.st) (defScope eUnknownFind.st) .none kV doc pm an (.ref cda) ct cc) ["value"] (["value"] : List Str).length [] (@gPos) :=
  ⟨fun s self us ws h1 h2 => match us, h1, ws, h2 with | [u0], _, [], _ => .of_eq rfl, by decide +kernel, by decide +kernel, fun r _ => r⟩
theorem kUnknownFind {qual : Str} {kV doc pm : Value} {an : Option Addr} {cda : Addr} {ct : Value} {cc : Addr} : EB (PySem.W.ksFn "__init__" qual (defArgs eUnknownFind.st) (defBody eUnknownFind.st) (defScope eUnknownFind.st) .none kV doc pm an (.ref cda) ct cc) ["value"] 0 (["value"] : List Str).reverse (@gKey) :=
  ⟨fun s self us ws h1 h2 => match us, h1, ws, h2 with | [], _, [u0], _ => .of_eq rfl, by decide +kernel, by decide +kernel, fun _ r => vals_rev r⟩
theorem pUnknownName {qual : Str} {kV doc pm : Value} {an : Option Addr} {cda : Addr} {ct : Value} {cc : Addr} : EB (PySem.W.ksFn "__init__" qual (defArgs eUnknownName.st) (defBody eUnknownName.st) (defScope eUnknownName.st) .none kV doc pm an (.ref cda) ct cc) ["value"] (["value"] : List Str).length [] (@gPos) :=
  ⟨fun s self us ws h1 h2 => match us, h1, ws, h2 with | [u0], _, [], _ => .of_eq rfl, by decide +kernel, by decide +kernel, fun r _ => r⟩
theorem kUnknownName {qual : Str} {kV doc pm : Value} {an : Option Addr} {cda : Addr} {ct : Value} {cc : Addr} : EB (PySem.W.ksFn "__init__" qual (defArgs eUnknownName.st) (defBody eUnknownName.st) (defScope eUnknownName.st) .none kV doc pm an (.ref cda) ct cc) ["value"] 0 (["value"] : List Str).reverse (@gKey) :=
  ⟨fun s self us ws h1 h2 => match us, h1, ws, h2 with | [], _, [u0], _ => .of_eq rfl, by decide +kernel, by decide +kernel, fun _ r => vals_rev r⟩
theorem pTargetTaken {qual : Str} {kV doc pm : Value} {an : Option Addr} {cda : Addr} {ct : Value} {cc : Addr} : EB (PySem.W.ksFn "__init__" qual (defArgs eTargetTaken.st) (defBody eTargetTaken.st) (defScope eTargetTaken.st) .none kV doc pm an (.ref cda) ct cc) ["field", "number", "by"] (["field", "number", "by"] : List Str).length [] (@gPos) :=
  ⟨fun s self us ws h1 h2 => match us, h1, ws, h2 with | [u0, u1, u2], _, [], _ => .of_eq rfl, by decide +kernel, by decide +kernel, fun r _ => r⟩
theorem kTargetTaken {qual : Str} {kV doc pm : Value} {an : Option Addr} {cda : Addr} {ct : Value} {cc : Addr} : EB (PySem.W.ksFn "__init__" qual (defArgs eTargetTaken.st) (defBody eTargetTaken.st) (defScope eTargetTaken.st) .none kV doc pm an (.ref cda) ct cc) ["field", "number", "by"] 0 (["field", "number", "by"] : List Str).reverse (@gKey) :=
  ⟨fun s self us ws h1 h2 => match us, h1, ws, h2 with | [], _, [u2, u1, u0], _ => .of_eq rfl, by decide +kernel, by decide +kernel, fun _ r => vals_rev r⟩
theorem pRowRefused {qual : Str} {kV doc pm : Value} {an : Option Addr} {cda : Addr} {ct : Value} {cc : Addr} : EB (PySem.W.ksFn "__init__" qual (defArgs eRowRefused.st) (defBody eRowRefused.st) (defScope eRowRefused.st) .none kV doc pm an (.ref cda) ct cc) ["kind", "number"] (["kind", "number"] : List Str).length [] (@gPos) :=
  ⟨fun s self us ws h1 h2 => match us, h1, ws, h2 with | [u0, u1], _, [], _ => .of_eq rfl, by decide +kernel, by decide +kernel, fun r _ => r⟩
theorem kRowRefused {qual : Str} {kV doc pm : Value} {an : Option Addr} {cda : Addr} {ct : Value} {cc : Addr} : EB (PySem.W.ksFn "__init__" qual (defArgs eRowRefused.st) (defBody eRowRefused.st) (defScope eRowRefused.st) .none kV doc pm an (.ref cda) ct cc) ["kind", "number"] 0 (["kind", "number"] : List Str).reverse (@gKey) :=
  ⟨fun s self us ws h1 h2 => match us, h1, ws, h2 with | [], _, [u1, u0], _ => .of_eq rfl, by decide +kernel, by decide +kernel, fun _ r => vals_rev r⟩
theorem pLinkRing {qual : Str} {kV doc pm : Value} {an : Option Addr} {cda : Addr} {ct : Value} {cc : Addr} : EB (PySem.W.ksFn "__init__" qual (defArgs eLinkRing.st) (defBody eLinkRing.st) (defScope eLinkRing.st) .none kV doc pm an (.ref cda) ct cc) ["ring"] (["ring"] : List Str).length [] (@gPos) :=
  ⟨fun s self us ws h1 h2 => match us, h1, ws, h2 with | [u0], _, [], _ => .of_eq rfl, by decide +kernel, by decide +kernel, fun r _ => r⟩
theorem kLinkRing {qual : Str} {kV doc pm : Value} {an : Option Addr} {cda : Addr} {ct : Value} {cc : Addr} : EB (PySem.W.ksFn "__init__" qual (defArgs eLinkRing.st) (defBody eLinkRing.st) (defScope eLinkRing.st) .none kV doc pm an (.ref cda) ct cc) ["ring"] 0 (["ring"] : List Str).reverse (@gKey) :=
  ⟨fun s self us ws h1 h2 => match us, h1, ws, h2 with | [], _, [u0], _ => .of_eq rfl, by decide +kernel, by decide +kernel, fun _ r => vals_rev r⟩
theorem pWordRefused {qual : Str} {kV doc pm : Value} {an : Option Addr} {cda : Addr} {ct : Value} {cc : Addr} : EB (PySem.W.ksFn "__init__" qual (defArgs eWordRefused.st) (defBody eWordRefused.st) (defScope eWordRefused.st) .none kV doc pm an (.ref cda) ct cc) ["link", "word"] (["link", "word"] : List Str).length [] (@gPos) :=
  ⟨fun s self us ws h1 h2 => match us, h1, ws, h2 with | [u0, u1], _, [], _ => .of_eq rfl, by decide +kernel, by decide +kernel, fun r _ => r⟩
theorem kWordRefused {qual : Str} {kV doc pm : Value} {an : Option Addr} {cda : Addr} {ct : Value} {cc : Addr} : EB (PySem.W.ksFn "__init__" qual (defArgs eWordRefused.st) (defBody eWordRefused.st) (defScope eWordRefused.st) .none kV doc pm an (.ref cda) ct cc) ["link", "word"] 0 (["link", "word"] : List Str).reverse (@gKey) :=
  ⟨fun s self us ws h1 h2 => match us, h1, ws, h2 with | [], _, [u1, u0], _ => .of_eq rfl, by decide +kernel, by decide +kernel, fun _ r => vals_rev r⟩
theorem pOtherSchema {qual : Str} {kV doc pm : Value} {an : Option Addr} {cda : Addr} {ct : Value} {cc : Addr} : EB (PySem.W.ksFn "__init__" qual (defArgs eOtherSchema.st) (defBody eOtherSchema.st) (defScope eOtherSchema.st) .none kV doc pm an (.ref cda) ct cc) ([] : List Str) ([] : List Str).length [] (@gPos) :=
  ⟨fun s self us ws h1 h2 => match us, h1, ws, h2 with | [], _, [], _ => .of_eq rfl, by decide +kernel, by decide +kernel, fun r _ => r⟩
theorem kOtherSchema {qual : Str} {kV doc pm : Value} {an : Option Addr} {cda : Addr} {ct : Value} {cc : Addr} : EB (PySem.W.ksFn "__init__" qual (defArgs eOtherSchema.st) (defBody eOtherSchema.st) (defScope eOtherSchema.st) .none kV doc pm an (.ref cda) ct cc) ([] : List Str) 0 ([] : List Str).reverse (@gKey) :=
  ⟨fun s self us ws h1 h2 => match us, h1, ws, h2 with | [], _, [], _ => .of_eq rfl, by decide +kernel, by decide +kernel, fun _ r => vals_rev r⟩
theorem pOtherFinds {qual : Str} {kV doc pm : Value} {an : Option Addr} {cda : Addr} {ct : Value} {cc : Addr} : EB (PySem.W.ksFn "__init__" qual (defArgs eOtherFinds.st) (defBody eOtherFinds.st) (defScope eOtherFinds.st) .none kV doc pm an (.ref cda) ct cc) ["one", "other"] (["one", "other"] : List Str).length [] (@gPos) :=
  ⟨fun s self us ws h1 h2 => match us, h1, ws, h2 with | [u0, u1], _, [], _ => .of_eq rfl, by decide +kernel, by decide +kernel, fun r _ => r⟩
theorem kOtherFinds {qual : Str} {kV doc pm : Value} {an : Option Addr} {cda : Addr} {ct : Value} {cc : Addr} : EB (PySem.W.ksFn "__init__" qual (defArgs eOtherFinds.st) (defBody eOtherFinds.st) (defScope eOtherFinds.st) .none kV doc pm an (.ref cda) ct cc) ["one", "other"] 0 (["one", "other"] : List Str).reverse (@gKey) :=
  ⟨fun s self us ws h1 h2 => match us, h1, ws, h2 with | [], _, [u1, u0], _ => .of_eq rfl, by decide +kernel, by decide +kernel, fun _ r => vals_rev r⟩
theorem pNameTaken {qual : Str} {kV doc pm : Value} {an : Option Addr} {cda : Addr} {ct : Value} {cc : Addr} : EB (PySem.W.ksFn "__init__" qual (defArgs eNameTaken.st) (defBody eNameTaken.st) (defScope eNameTaken.st) .none kV doc pm an (.ref cda) ct cc) ["name"] (["name"] : List Str).length [] (@gPos) :=
  ⟨fun s self us ws h1 h2 => match us, h1, ws, h2 with | [u0], _, [], _ => .of_eq rfl, by decide +kernel, by decide +kernel, fun r _ => r⟩
theorem kNameTaken {qual : Str} {kV doc pm : Value} {an : Option Addr} {cda : Addr} {ct : Value} {cc : Addr} : EB (PySem.W.ksFn "__init__" qual (defArgs eNameTaken.st) (defBody eNameTaken.st) (defScope eNameTaken.st) .none kV doc pm an (.ref cda) ct cc) ["name"] 0 (["name"] : List Str).reverse (@gKey) :=
  ⟨fun s self us ws h1 h2 => match us, h1, ws, h2 with | [], _, [u0], _ => .of_eq rfl, by decide +kernel, by decide +kernel, fun _ r => vals_rev r⟩
theorem pNotKept {qual : Str} {kV doc pm : Value} {an : Option Addr} {cda : Addr} {ct : Value} {cc : Addr} : EB (PySem.W.ksFn "__init__" qual (defArgs eNotKept.st) (defBody eNotKept.st) (defScope eNotKept.st) .none kV doc pm an (.ref cda) ct cc) ["kind", "number"] (["kind", "number"] : List Str).length [] (@gPos) :=
  ⟨fun s self us ws h1 h2 => match us, h1, ws, h2 with | [u0, u1], _, [], _ => .of_eq rfl, by decide +kernel, by decide +kernel, fun r _ => r⟩
theorem kNotKept {qual : Str} {kV doc pm : Value} {an : Option Addr} {cda : Addr} {ct : Value} {cc : Addr} : EB (PySem.W.ksFn "__init__" qual (defArgs eNotKept.st) (defBody eNotKept.st) (defScope eNotKept.st) .none kV doc pm an (.ref cda) ct cc) ["kind", "number"] 0 (["kind", "number"] : List Str).reverse (@gKey) :=
  ⟨fun s self us ws h1 h2 => match us, h1, ws, h2 with | [], _, [u1, u0], _ => .of_eq rfl, by decide +kernel, by decide +kernel, fun _ r => vals_rev r⟩
theorem pChangesRefused {qual : Str} {kV doc pm : Value} {an : Option Addr} {cda : Addr} {ct : Value} {cc : Addr} : EB (PySem.W.ksFn "__init__" qual (defArgs eChangesRefused.st) (defBody eChangesRefused.st) (defScope eChangesRefused.st) .none kV doc pm an (.ref cda) ct cc) ["position"] (["position"] : List Str).length [] (@gPos) :=
  ⟨fun s self us ws h1 h2 => match us, h1, ws, h2 with | [u0], _, [], _ => .of_eq rfl, by decide +kernel, by decide +kernel, fun r _ => r⟩
theorem kChangesRefused {qual : Str} {kV doc pm : Value} {an : Option Addr} {cda : Addr} {ct : Value} {cc : Addr} : EB (PySem.W.ksFn "__init__" qual (defArgs eChangesRefused.st) (defBody eChangesRefused.st) (defScope eChangesRefused.st) .none kV doc pm an (.ref cda) ct cc) ["position"] 0 (["position"] : List Str).reverse (@gKey) :=
  ⟨fun s self us ws h1 h2 => match us, h1, ws, h2 with | [], _, [u0], _ => .of_eq rfl, by decide +kernel, by decide +kernel, fun _ r => vals_rev r⟩
theorem pSaveRefused {qual : Str} {kV doc pm : Value} {an : Option Addr} {cda : Addr} {ct : Value} {cc : Addr} : EB (PySem.W.ksFn "__init__" qual (defArgs eSaveRefused.st) (defBody eSaveRefused.st) (defScope eSaveRefused.st) .none kV doc pm an (.ref cda) ct cc) ["first", "second"] (["first", "second"] : List Str).length [] (@gPos) :=
  ⟨fun s self us ws h1 h2 => match us, h1, ws, h2 with | [u0, u1], _, [], _ => .of_eq rfl, by decide +kernel, by decide +kernel, fun r _ => r⟩
theorem kSaveRefused {qual : Str} {kV doc pm : Value} {an : Option Addr} {cda : Addr} {ct : Value} {cc : Addr} : EB (PySem.W.ksFn "__init__" qual (defArgs eSaveRefused.st) (defBody eSaveRefused.st) (defScope eSaveRefused.st) .none kV doc pm an (.ref cda) ct cc) ["first", "second"] 0 (["first", "second"] : List Str).reverse (@gKey) :=
  ⟨fun s self us ws h1 h2 => match us, h1, ws, h2 with | [], _, [u1, u0], _ => .of_eq rfl, by decide +kernel, by decide +kernel, fun _ r => vals_rev r⟩
theorem pNothingToUndo {qual : Str} {kV doc pm : Value} {an : Option Addr} {cda : Addr} {ct : Value} {cc : Addr} : EB (PySem.W.ksFn "__init__" qual (defArgs eNothingToUndo.st) (defBody eNothingToUndo.st) (defScope eNothingToUndo.st) .none kV doc pm an (.ref cda) ct cc) ([] : List Str) ([] : List Str).length [] (@gPos) :=
  ⟨fun s self us ws h1 h2 => match us, h1, ws, h2 with | [], _, [], _ => .of_eq rfl, by decide +kernel, by decide +kernel, fun r _ => r⟩
theorem kNothingToUndo {qual : Str} {kV doc pm : Value} {an : Option Addr} {cda : Addr} {ct : Value} {cc : Addr} : EB (PySem.W.ksFn "__init__" qual (defArgs eNothingToUndo.st) (defBody eNothingToUndo.st) (defScope eNothingToUndo.st) .none kV doc pm an (.ref cda) ct cc) ([] : List Str) 0 ([] : List Str).reverse (@gKey) :=
  ⟨fun s self us ws h1 h2 => match us, h1, ws, h2 with | [], _, [], _ => .of_eq rfl, by decide +kernel, by decide +kernel, fun _ r => vals_rev r⟩
theorem pCommandFailed {qual : Str} {kV doc pm : Value} {an : Option Addr} {cda : Addr} {ct : Value} {cc : Addr} : EB (PySem.W.ksFn "__init__" qual (defArgs eCommandFailed.st) (defBody eCommandFailed.st) (defScope eCommandFailed.st) .none kV doc pm an (.ref cda) ct cc) ["position"] (["position"] : List Str).length [] (@gPos) :=
  ⟨fun s self us ws h1 h2 => match us, h1, ws, h2 with | [u0], _, [], _ => .of_eq rfl, by decide +kernel, by decide +kernel, fun r _ => r⟩
theorem kCommandFailed {qual : Str} {kV doc pm : Value} {an : Option Addr} {cda : Addr} {ct : Value} {cc : Addr} : EB (PySem.W.ksFn "__init__" qual (defArgs eCommandFailed.st) (defBody eCommandFailed.st) (defScope eCommandFailed.st) .none kV doc pm an (.ref cda) ct cc) ["position"] 0 (["position"] : List Str).reverse (@gKey) :=
  ⟨fun s self us ws h1 h2 => match us, h1, ws, h2 with | [], _, [u0], _ => .of_eq rfl, by decide +kernel, by decide +kernel, fun _ r => vals_rev r⟩
theorem pTooMany {qual : Str} {kV doc pm : Value} {an : Option Addr} {cda : Addr} {ct : Value} {cc : Addr} : EB (PySem.W.ksFn "__init__" qual (defArgs eTooMany.st) (defBody eTooMany.st) (defScope eTooMany.st) .none kV doc pm an (.ref cda) ct cc) ["what", "limit"] (["what", "limit"] : List Str).length [] (@gPos) :=
  ⟨fun s self us ws h1 h2 => match us, h1, ws, h2 with | [u0, u1], _, [], _ => .of_eq rfl, by decide +kernel, by decide +kernel, fun r _ => r⟩
theorem kTooMany {qual : Str} {kV doc pm : Value} {an : Option Addr} {cda : Addr} {ct : Value} {cc : Addr} : EB (PySem.W.ksFn "__init__" qual (defArgs eTooMany.st) (defBody eTooMany.st) (defScope eTooMany.st) .none kV doc pm an (.ref cda) ct cc) ["what", "limit"] 0 (["what", "limit"] : List Str).reverse (@gKey) :=
  ⟨fun s self us ws h1 h2 => match us, h1, ws, h2 with | [], _, [u1, u0], _ => .of_eq rfl, by decide +kernel, by decide +kernel, fun _ r => vals_rev r⟩
end K14
end
section
set_option Elab.async false
set_option linter.all false
set_option maxRecDepth 100000
set_option maxHeartbeats 0
namespace K14
open PySem PySem.Spec PyProof.Rows L2 PySem.EK HE He
/-! ### the facts as Bools -/
def kitB (K : PySem.W.Frag) (C : Addr) (c : Value) (b : Bool) : Bool := decide (PySem.W.kitOne K (.ref C) c = some b)
def underB (K : PySem.W.Frag) (C0 C1 C2 C3 C : Addr) (j : Nat) : Bool :=
  eqO (PySem.W.findIn K (.ref C) "__class__") (some (some (.builtin "object.__class__"))) && (eqO (PySem.W.specialIn K (.builtin "object.__class__") "__get__") (some (some (.builtin "getset_descriptor.__get__"))) &&
  (eqB (PySem.W.takesIn K (.builtin "object.__class__")) (some true) && (eqB (PySem.W.mroIn K C (.type "object")) (some true) &&
  (kitB K C (.ref C0) (decide (j = 0)) && (kitB K C (.ref C1) (decide (j = 1)) && (kitB K C (.ref C2) (decide (j = 2)) && (kitB K C (.ref C3) (decide (j = 3)) &&
  (kitB K C (.type "ValueError") (decide (j = 0)) && (kitB K C (.type "LookupError") (decide (j = 1)) && (kitB K C (.type "RuntimeError") (decide (j = 2)) && kitB K C (.type "ArithmeticError") (decide (j = 3))))))))))))
theorem underB_ok {K : PySem.W.Frag} {C0 C1 C2 C3 C : Addr} {j : Nat} (ga : PySem.W.findIn K (.ref C) "__getattribute__" = some (some (.builtin "BaseException.__getattribute__"))) (gg : PySem.W.findIn K (.ref C) "__getattr__" = some none)
    (ex : PySem.W.subIn K (.ref C) (.type "BaseException") = some true) (hd : PySem.W.hasDictIn K C = true) (h : underB K C0 C1 C2 C3 C j = true) : Under K C0 C1 C2 C3 C j := by
  obtain ⟨h1, h⟩ := ba h
  obtain ⟨h2, h⟩ := ba h
  obtain ⟨h3, h⟩ := ba h
  obtain ⟨h4, h⟩ := ba h
  obtain ⟨h5, h⟩ := ba h
  obtain ⟨h6, h⟩ := ba h
  obtain ⟨h7, h⟩ := ba h
  obtain ⟨h8, h⟩ := ba h
  obtain ⟨h9, h⟩ := ba h
  obtain ⟨h10, h⟩ := ba h
  obtain ⟨h11, h12⟩ := ba h
  exact ⟨⟨ga, gg, ex, hd, eqO_ok h1, eqO_ok h2, of_decide_eq_true h3, of_decide_eq_true h4⟩, of_decide_eq_true h5, of_decide_eq_true h6, of_decide_eq_true h7, of_decide_eq_true h8, of_decide_eq_true h9, of_decide_eq_true h10, of_decide_eq_true h11, of_decide_eq_true h12⟩
def baseNo (x : Str) : Nat := if x = "FetchError" then 0 else if x = "MissingError" then 1 else if x = "StateError" then 2 else 3
def errs0 : List InD := [eInvalidKinds, eInvalidFields, eInvalidFlags, eInvalidSchema, eInvalidId, eInvalidRow, eInvalidRows, eInvalidStore, eInvalidWalk, eNoWalk, eInvalidRoots, eInvalidWord, eInvalidPlan, eInvalidLinks, eInvalidRoute, eInvalidPlace]
def errs1 : List InD := [eInvalidPlaces, eInvalidSizeName, eInvalidSize, eInvalidSizes, eInvalidNumber, eInvalidSum, eInvalidChange, eInvalidValue, eInvalidText, eInvalidClaim, eInvalidCommand, eUnknownKind, eUnknownLink, eUnknownObject, eUnknownTarget, eUnknownSpot]
def errs2 : List InD := [eUnknownPath, eUnknownFind, eUnknownName, eTargetTaken, eRowRefused, eLinkRing, eWordRefused, eOtherSchema, eOtherFinds, eNameTaken, eNotKept, eChangesRefused, eSaveRefused, eNothingToUndo, eCommandFailed, eTooMany]
def errs : List InD := errs0 ++ errs1 ++ errs2
abbrev PP : Program := PySem.Challenge.pw_fetchwalks_k14_errors_made
def allE (K : PySem.W.Frag) (es : List InD) : Bool := es.all fun d => d.ok PP K && underB K (He.ga K "FetchError") (He.ga K "MissingError") (He.ga K "StateError") (He.ga K "LimitError") (He.ga K d.name) (baseNo d.base)
def sysB (K : PySem.W.Frag) : Bool := decide ((K.lookup sysModules).map (·.cls) = some (.type "dict"))
def allB (K : PySem.W.Frag) : Bool := sysB K && allE K errs
theorem allB_of {K : PySem.W.Frag} (h : sysB K = true) (h0 : allE K errs0 = true) (h1 : allE K errs1 = true) (h2 : allE K errs2 = true) : allB K = true := by
  unfold allB allE errs
  rw [List.all_append, List.all_append, h]
  show (true && ((allE K errs0 && allE K errs1) && allE K errs2)) = true
  rw [h0, h1, h2]
  rfl
def dsPot : He.DefD := ⟨("_law_pot", none), "_law_pot", "_law_pot", defArgs sPot, defBody sPot, defScope sPot, [], []⟩
def dsDraw : He.DefD := ⟨("_law_draw", none), "_law_draw", "_law_draw", defArgs sDraw, defBody sDraw, defScope sDraw, [], []⟩
def dsPick : He.DefD := ⟨("_law_pick", none), "_law_pick", "_law_pick", defArgs sPick, defBody sPick, defScope sPick, [], []⟩
def dsFetch : He.DefD := ⟨("_law_fetch", none), "_law_fetch", "_law_fetch", defArgs sFetch, defBody sFetch, defScope sFetch, [], []⟩
def dsToo : He.DefD := ⟨("_law_fetch_too", none), "_law_fetch_too", "_law_fetch_too", defArgs sToo, defBody sToo, defScope sToo, [], []⟩
def dsMissing : He.DefD := ⟨("_law_missing", none), "_law_missing", "_law_missing", defArgs sMissing, defBody sMissing, defScope sMissing, [], []⟩
def dsState : He.DefD := ⟨("_law_state", none), "_law_state", "_law_state", defArgs sState, defBody sState, defScope sState, [], []⟩
def dsLimit : He.DefD := ⟨("_law_limit", none), "_law_limit", "_law_limit", defArgs sLimit, defBody sLimit, defScope sLimit, [], []⟩
def dsPart : He.DefD := ⟨("_law_part", none), "_law_part", "_law_part", defArgs sPart, defBody sPart, defScope sPart, [], []⟩
def dsBases : He.DefD := ⟨("_law_bases", none), "_law_bases", "_law_bases", defArgs sBases, defBody sBases, defScope sBases, [], []⟩
def dsAre : He.DefD := ⟨("_law_are_right", none), "_law_are_right", "_law_are_right", defArgs sAre, defBody sAre, defScope sAre, [], []⟩
def dsRight : He.DefD := ⟨("_law_right", none), "_law_right", "_law_right", defArgs sRight, defBody sRight, defScope sRight, [], []⟩
def dsLaw : He.DefD := ⟨("law", none), "law", "law", defArgs sLaw, defBody sLaw, defScope sLaw, [], []⟩
def fn : List He.DefD := [dsPot, dsDraw, dsPick, dsFetch, dsToo, dsMissing, dsState, dsLimit, dsPart, dsBases, dsAre, dsRight, dsLaw]
def fa : List He.Fa := [.glo "_law_pot", .glo "_law_draw", .glo "_law_pick", .glo "_law_fetch", .glo "_law_fetch_too", .glo "_law_missing", .glo "_law_state", .glo "_law_limit", .glo "_law_part", .glo "_law_bases", .glo "_law_are_right", .glo "_law_right", .glo "law", .glo "FetchError", .glo "MissingError", .glo "StateError", .glo "LimitError", .free "len", .free "abs", .free "max", .free "min", .free "int", .free "divmod", .free "isinstance", .free "repr", .free "range", .free "all", .free "super", .free "ValueError", .free "LookupError", .free "RuntimeError", .free "ArithmeticError"]
abbrev AlE : Type := He.AlD × Bool × List InW
def obsX (K : PySem.W.Frag) : AlE := (He.obsD fa fn K, allB K, errs.map fun d => inW K d.name)
def valX : AlE := (He.valD fn, true, errs.map InD.val)
def SaysX (K : PySem.W.Frag) : Prop := obsX K = valX
def clsN : List (Str × List Str) := (["FetchError", "MissingError", "StateError", "LimitError"] : List Str).map (fun x => (x, [])) ++ errs.map (fun d => (d.name, [("__init__" : Str)]))
def fnN : List Str := ["_law_pot", "_law_draw", "_law_pick", "_law_fetch", "_law_fetch_too", "_law_missing", "_law_state", "_law_limit", "_law_part", "_law_bases", "_law_are_right", "_law_right", "law"]
def obsXG (g : Addr → Option Obj) : AlE := frNats (pathAs g clsN fnN) fun as => frFrag g as fun K => obsX K
theorem obsXG_eq (g : Addr → Option Obj) : obsXG g = obsX (He.frG g (pathAs g clsN fnN)) := by
  unfold obsXG
  rw [frNats_eq, frFrag_eq]
def hk : PySem.W.Hook where
  α := AlE
  obs := fun s => obsXG s.heap.get?
  val := fun _ => valX
  says := fun _ h => ∃ K : PySem.W.Frag, K.In h ∧ SaysX K
  of := fun _ s e => ⟨_, He.frG_in, (obsXG_eq s.heap.get?).symm.trans e⟩
  keeps := fun _ _ _ ⟨K, hK, c⟩ k => ⟨K, PySem.W.Frag.In.keeps hK k, c⟩
def ob (s : PySem.W.SharedT) : AlE := obsXG (HandSHeadRun.getT s)
theorem ob_eq (s : PySem.W.SharedT) : ob s = hk.obs s.abs := by
  have e : HandSHeadRun.getT s = s.abs.heap.get? := funext (HandSHeadRun.getT_eq s)
  show obsXG (HandSHeadRun.getT s) = obsXG s.abs.heap.get?
  rw [e]
abbrev R : PySem.W.OpenRow := PySem.W.OpenLaw.row PySem.Challenge.rw_fetchwalks_k14_errors_made
def names0 : List Str := ["FetchError", "InvalidKinds", "InvalidFields", "InvalidFlags", "InvalidSchema", "InvalidId", "InvalidRow", "InvalidRows", "InvalidStore", "InvalidWalk", "NoWalk", "InvalidRoots", "InvalidWord", "InvalidPlan", "InvalidLinks", "InvalidRoute", "InvalidPlace", "InvalidPlaces", "InvalidSizeName", "InvalidSize", "InvalidSizes", "InvalidNumber", "InvalidSum", "InvalidChange", "InvalidValue", "InvalidText", "InvalidClaim", "InvalidCommand", "MissingError", "UnknownKind"]
def names1 : List Str := ["UnknownLink", "UnknownObject", "UnknownTarget", "UnknownSpot", "UnknownPath", "UnknownFind", "UnknownName", "StateError", "TargetTaken", "RowRefused", "LinkRing", "WordRefused", "OtherSchema", "OtherFinds", "NameTaken", "NotKept", "ChangesRefused", "SaveRefused", "NothingToUndo", "CommandFailed", "LimitError", "TooMany", "_law_pot", "_law_draw", "_law_pick", "_law_fetch", "_law_fetch_too", "_law_missing", "_law_state", "_law_limit"]
def names2 : List Str := ["_law_part", "_law_bases", "_law_are_right", "_law_right"]
def names : List Str := names0 ++ names1 ++ names2
def fk {α : Type} (g : Addr → Option Obj) (f : PySem.W.Frag → α) : α := frNats (pathAs g clsN fnN) fun as => frFrag g as f
theorem fk_eq {α : Type} (g : Addr → Option Obj) (f : PySem.W.Frag → α) : fk g f = f (He.frG g (pathAs g clsN fnN)) := by
  unfold fk
  rw [frNats_eq, frFrag_eq]
noncomputable abbrev en (w : World) (os : OsState) : Option PySem.W.SharedT := HandSHeadRun.endF (HandSHeadRun.stepQ (HandSHeadRun.denQ HandSHeadRun.tabQ) R.prog w) 20000 R.prog w os
def cS (s : PySem.W.SharedT) : He.AlD × Bool × List InW := fk (HandSHeadRun.getT s) fun K => (He.obsD fa fn K, sysB K, errs.map fun d => inW K d.name)
def pS (s : PySem.W.SharedT) : Bool × Bool × Bool := fk (HandSHeadRun.getT s) fun K => (allE K errs0, allE K errs1, allE K errs2)
theorem comb {σ A B C D : Type} {o : Option σ} {a : σ → A} {b : σ → B} {c : σ → C} {p : σ → D} {ob : σ → C} {va : A} {vb : B} {vc : C} {vd : D} (h : o.map (fun s => (a s, b s, c s)) = some (va, vb, vc)) (h0 : o.map p = some vd)
    (hob : ∀ s, c s = vc → p s = vd → ob s = vc) : o.map (fun s => (a s, b s, ob s)) = some (va, vb, vc) := by
  cases o with
  | none => cases h
  | some s =>
    simp only [Option.map_some, Option.some.injEq, Prod.mk.injEq] at h h0 ⊢
    exact ⟨h.1, h.2.1, hob s h.2.2 h0⟩
end K14
end
section
set_option Elab.async false
set_option linter.all false
set_option maxRecDepth 100000
set_option maxHeartbeats 0
namespace K14
open PySem PySem.Spec PyProof.Rows L2 PySem.EK HE He
theorem runB (w : World) (os : OsState) : (en w os).map pS = some (true, true, true) := by kernel_rfl
theorem runA (w : World) (os : OsState) : (en w os).map (fun s => (HandSHeadRun.looksF R.prog (PySem.W.boot_heap w.params) s.abs, HandSHeadRun.seenQ (PySem.W.view R.prog [66]) names (importedModules R.prog.main.body) (fun s => PySem.W.xlAt (PySem.W.view R.prog [66]) [] s && PySem.W.recOk R.toRowW.records s) s.abs, cS s)) = some (true, PySem.W.openGood (PySem.W.view R.prog [66]) names, valX) := by kernel_rfl
theorem run (w : World) : HandSHeadRun.RunEq R (PySem.W.view R.prog [66]) hk ob 20000 names w := by
  intro os
  refine comb (runA w os) (runB w os) fun s hc h0 => ?_
  unfold cS at hc
  unfold pS at h0
  rw [fk_eq] at hc h0
  show obsXG (HandSHeadRun.getT s) = valX
  rw [obsXG_eq]
  unfold obsX
  have e : (_, _, _) = (He.valD fn, true, errs.map InD.val) := hc
  unfold valX
  simp only [Prod.mk.injEq] at e h0 ⊢
  exact ⟨e.1, allB_of e.2.1 h0.1 h0.2.1 h0.2.2, e.2.2⟩
end K14
end
section
set_option Elab.async false
set_option linter.all false
set_option maxRecDepth 100000
set_option maxHeartbeats 0
namespace K14
open PySem PySem.Spec PyProof.Rows L2 PySem.EK HE He

/-! ### from the facts to the promises -/
section
variable {K : PySem.W.Frag} {h : Heap} {mg : Str → Option Value}
abbrev c0 (K : PySem.W.Frag) : Addr := He.ga K "FetchError"
abbrev c1 (K : PySem.W.Frag) : Addr := He.ga K "MissingError"
abbrev c2 (K : PySem.W.Frag) : Addr := He.ga K "StateError"
abbrev c3 (K : PySem.W.Frag) : Addr := He.ga K "LimitError"
theorem noSuper : (PP.main.scope.names.lookup ("super" : Str)).isSome = false := by decide +kernel
theorem map_at {l : List InD} {f g : InD → InW} (e : l.map f = l.map g) {i : Nat} {d : InD} (hi : l[i]? = some d) : f d = g d := by
  have z := congrArg (fun q => q[i]?) e
  simp only [List.getElem?_map, hi, Option.map_some, Option.some.injEq] at z
  exact z
theorem SaysX.d (c : SaysX K) : He.SaysD fa fn K := congrArg (fun z : AlE => z.1) c
theorem SaysX.all (c : SaysX K) : sysB K = true ∧ allE K errs = true := ba (congrArg (fun z : AlE => z.2.1) c)
theorem SaysX.sys (c : SaysX K) : NoSys K := by
  have z := c.all.1
  unfold sysB at z
  unfold NoSys
  exact of_decide_eq_true z
theorem SaysX.maps (c : SaysX K) : (errs.map fun d => inW K d.name) = errs.map InD.val := congrArg (fun z : AlE => z.2.2) c
theorem SaysX.err (c : SaysX K) (X : K.In h) (G : h.Ns mainGlobals mg) (i : Nat) {d : InD} (hi : errs[i]? = some d) (bt : BaseT d.B d.newId d.initId d.bm) (t : InT d)
    (pos : ∀ {qual : Str} {kV doc pm : Value} {an : Option Addr} {cda : Addr} {ct : Value} {cc : Addr}, EB (PySem.W.ksFn "__init__" qual (defArgs d.st) (defBody d.st) (defScope d.st) .none kV doc pm an (.ref cda) ct cc) d.fs d.fs.length [] (@gPos))
    (key : ∀ {qual : Str} {kV doc pm : Value} {an : Option Addr} {cda : Addr} {ct : Value} {cc : Addr}, EB (PySem.W.ksFn "__init__" qual (defArgs d.st) (defBody d.st) (defScope d.st) .none kV doc pm an (.ref cda) ct cc) d.fs 0 d.fs.reverse (@gKey)) :
    ErrX PP K mg (c0 K) (c1 K) (c2 K) (c3 K) d.name d.fs (baseNo d.base) := by
  have z := List.all_eq_true.mp c.all.2 d (List.mem_of_getElem? hi)
  obtain ⟨ho, hu⟩ := ba z
  have e := map_at (f := fun d => inW K d.name) (g := InD.val) c.maps hi
  obtain ⟨qual, kV, doc, pm, an, cda, ct, cc, T⟩ := errT_of bt noSuper t ho e
  obtain ⟨h1, _⟩ := ba ho
  exact ⟨_, _, _, _, _, _, _, _, ⟨PySem.W.mg_of X G (eqO_ok h1), T, pos, key, underB_ok T.ga T.gg T.exC T.hdC hu⟩⟩
theorem SaysX.xInvalidKinds (c : SaysX K) (X : K.In h) (G : h.Ns mainGlobals mg) : ErrX PP K mg (c0 K) (c1 K) (c2 K) (c3 K) eInvalidKinds.name eInvalidKinds.fs (baseNo eInvalidKinds.base) := c.err X G 0 (d := eInvalidKinds) rfl base_Value tInvalidKinds pInvalidKinds kInvalidKinds
theorem SaysX.xInvalidFields (c : SaysX K) (X : K.In h) (G : h.Ns mainGlobals mg) : ErrX PP K mg (c0 K) (c1 K) (c2 K) (c3 K) eInvalidFields.name eInvalidFields.fs (baseNo eInvalidFields.base) := c.err X G 1 (d := eInvalidFields) rfl base_Value tInvalidFields pInvalidFields kInvalidFields
theorem SaysX.xInvalidFlags (c : SaysX K) (X : K.In h) (G : h.Ns mainGlobals mg) : ErrX PP K mg (c0 K) (c1 K) (c2 K) (c3 K) eInvalidFlags.name eInvalidFlags.fs (baseNo eInvalidFlags.base) := c.err X G 2 (d := eInvalidFlags) rfl base_Value tInvalidFlags pInvalidFlags kInvalidFlags
theorem SaysX.xInvalidSchema (c : SaysX K) (X : K.In h) (G : h.Ns mainGlobals mg) : ErrX PP K mg (c0 K) (c1 K) (c2 K) (c3 K) eInvalidSchema.name eInvalidSchema.fs (baseNo eInvalidSchema.base) := c.err X G 3 (d := eInvalidSchema) rfl base_Value tInvalidSchema pInvalidSchema kInvalidSchema
theorem SaysX.xInvalidId (c : SaysX K) (X : K.In h) (G : h.Ns mainGlobals mg) : ErrX PP K mg (c0 K) (c1 K) (c2 K) (c3 K) eInvalidId.name eInvalidId.fs (baseNo eInvalidId.base) := c.err X G 4 (d := eInvalidId) rfl base_Value tInvalidId pInvalidId kInvalidId
theorem SaysX.xInvalidRow (c : SaysX K) (X : K.In h) (G : h.Ns mainGlobals mg) : ErrX PP K mg (c0 K) (c1 K) (c2 K) (c3 K) eInvalidRow.name eInvalidRow.fs (baseNo eInvalidRow.base) := c.err X G 5 (d := eInvalidRow) rfl base_Value tInvalidRow pInvalidRow kInvalidRow
theorem SaysX.xInvalidRows (c : SaysX K) (X : K.In h) (G : h.Ns mainGlobals mg) : ErrX PP K mg (c0 K) (c1 K) (c2 K) (c3 K) eInvalidRows.name eInvalidRows.fs (baseNo eInvalidRows.base) := c.err X G 6 (d := eInvalidRows) rfl base_Value tInvalidRows pInvalidRows kInvalidRows
theorem SaysX.xInvalidStore (c : SaysX K) (X : K.In h) (G : h.Ns mainGlobals mg) : ErrX PP K mg (c0 K) (c1 K) (c2 K) (c3 K) eInvalidStore.name eInvalidStore.fs (baseNo eInvalidStore.base) := c.err X G 7 (d := eInvalidStore) rfl base_Value tInvalidStore pInvalidStore kInvalidStore
theorem SaysX.xInvalidWalk (c : SaysX K) (X : K.In h) (G : h.Ns mainGlobals mg) : ErrX PP K mg (c0 K) (c1 K) (c2 K) (c3 K) eInvalidWalk.name eInvalidWalk.fs (baseNo eInvalidWalk.base) := c.err X G 8 (d := eInvalidWalk) rfl base_Value tInvalidWalk pInvalidWalk kInvalidWalk
theorem SaysX.xNoWalk (c : SaysX K) (X : K.In h) (G : h.Ns mainGlobals mg) : ErrX PP K mg (c0 K) (c1 K) (c2 K) (c3 K) eNoWalk.name eNoWalk.fs (baseNo eNoWalk.base) := c.err X G 9 (d := eNoWalk) rfl base_Value tNoWalk pNoWalk kNoWalk
theorem SaysX.xInvalidRoots (c : SaysX K) (X : K.In h) (G : h.Ns mainGlobals mg) : ErrX PP K mg (c0 K) (c1 K) (c2 K) (c3 K) eInvalidRoots.name eInvalidRoots.fs (baseNo eInvalidRoots.base) := c.err X G 10 (d := eInvalidRoots) rfl base_Value tInvalidRoots pInvalidRoots kInvalidRoots
theorem SaysX.xInvalidWord (c : SaysX K) (X : K.In h) (G : h.Ns mainGlobals mg) : ErrX PP K mg (c0 K) (c1 K) (c2 K) (c3 K) eInvalidWord.name eInvalidWord.fs (baseNo eInvalidWord.base) := c.err X G 11 (d := eInvalidWord) rfl base_Value tInvalidWord pInvalidWord kInvalidWord
theorem SaysX.xInvalidPlan (c : SaysX K) (X : K.In h) (G : h.Ns mainGlobals mg) : ErrX PP K mg (c0 K) (c1 K) (c2 K) (c3 K) eInvalidPlan.name eInvalidPlan.fs (baseNo eInvalidPlan.base) := c.err X G 12 (d := eInvalidPlan) rfl base_Value tInvalidPlan pInvalidPlan kInvalidPlan
theorem SaysX.xInvalidLinks (c : SaysX K) (X : K.In h) (G : h.Ns mainGlobals mg) : ErrX PP K mg (c0 K) (c1 K) (c2 K) (c3 K) eInvalidLinks.name eInvalidLinks.fs (baseNo eInvalidLinks.base) := c.err X G 13 (d := eInvalidLinks) rfl base_Value tInvalidLinks pInvalidLinks kInvalidLinks
theorem SaysX.xInvalidRoute (c : SaysX K) (X : K.In h) (G : h.Ns mainGlobals mg) : ErrX PP K mg (c0 K) (c1 K) (c2 K) (c3 K) eInvalidRoute.name eInvalidRoute.fs (baseNo eInvalidRoute.base) := c.err X G 14 (d := eInvalidRoute) rfl base_Value tInvalidRoute pInvalidRoute kInvalidRoute
theorem SaysX.xInvalidPlace (c : SaysX K) (X : K.In h) (G : h.Ns mainGlobals mg) : ErrX PP K mg (c0 K) (c1 K) (c2 K) (c3 K) eInvalidPlace.name eInvalidPlace.fs (baseNo eInvalidPlace.base) := c.err X G 15 (d := eInvalidPlace) rfl base_Value tInvalidPlace pInvalidPlace kInvalidPlace
theorem SaysX.xInvalidPlaces (c : SaysX K) (X : K.In h) (G : h.Ns mainGlobals mg) : ErrX PP K mg (c0 K) (c1 K) (c2 K) (c3 K) eInvalidPlaces.name eInvalidPlaces.fs (baseNo eInvalidPlaces.base) := c.err X G 16 (d := eInvalidPlaces) rfl base_Value tInvalidPlaces pInvalidPlaces kInvalidPlaces
theorem SaysX.xInvalidSizeName (c : SaysX K) (X : K.In h) (G : h.Ns mainGlobals mg) : ErrX PP K mg (c0 K) (c1 K) (c2 K) (c3 K) eInvalidSizeName.name eInvalidSizeName.fs (baseNo eInvalidSizeName.base) := c.err X G 17 (d := eInvalidSizeName) rfl base_Value tInvalidSizeName pInvalidSizeName kInvalidSizeName
theorem SaysX.xInvalidSize (c : SaysX K) (X : K.In h) (G : h.Ns mainGlobals mg) : ErrX PP K mg (c0 K) (c1 K) (c2 K) (c3 K) eInvalidSize.name eInvalidSize.fs (baseNo eInvalidSize.base) := c.err X G 18 (d := eInvalidSize) rfl base_Value tInvalidSize pInvalidSize kInvalidSize
theorem SaysX.xInvalidSizes (c : SaysX K) (X : K.In h) (G : h.Ns mainGlobals mg) : ErrX PP K mg (c0 K) (c1 K) (c2 K) (c3 K) eInvalidSizes.name eInvalidSizes.fs (baseNo eInvalidSizes.base) := c.err X G 19 (d := eInvalidSizes) rfl base_Value tInvalidSizes pInvalidSizes kInvalidSizes
theorem SaysX.xInvalidNumber (c : SaysX K) (X : K.In h) (G : h.Ns mainGlobals mg) : ErrX PP K mg (c0 K) (c1 K) (c2 K) (c3 K) eInvalidNumber.name eInvalidNumber.fs (baseNo eInvalidNumber.base) := c.err X G 20 (d := eInvalidNumber) rfl base_Value tInvalidNumber pInvalidNumber kInvalidNumber
theorem SaysX.xInvalidSum (c : SaysX K) (X : K.In h) (G : h.Ns mainGlobals mg) : ErrX PP K mg (c0 K) (c1 K) (c2 K) (c3 K) eInvalidSum.name eInvalidSum.fs (baseNo eInvalidSum.base) := c.err X G 21 (d := eInvalidSum) rfl base_Value tInvalidSum pInvalidSum kInvalidSum
theorem SaysX.xInvalidChange (c : SaysX K) (X : K.In h) (G : h.Ns mainGlobals mg) : ErrX PP K mg (c0 K) (c1 K) (c2 K) (c3 K) eInvalidChange.name eInvalidChange.fs (baseNo eInvalidChange.base) := c.err X G 22 (d := eInvalidChange) rfl base_Value tInvalidChange pInvalidChange kInvalidChange
theorem SaysX.xInvalidValue (c : SaysX K) (X : K.In h) (G : h.Ns mainGlobals mg) : ErrX PP K mg (c0 K) (c1 K) (c2 K) (c3 K) eInvalidValue.name eInvalidValue.fs (baseNo eInvalidValue.base) := c.err X G 23 (d := eInvalidValue) rfl base_Value tInvalidValue pInvalidValue kInvalidValue
theorem SaysX.xInvalidText (c : SaysX K) (X : K.In h) (G : h.Ns mainGlobals mg) : ErrX PP K mg (c0 K) (c1 K) (c2 K) (c3 K) eInvalidText.name eInvalidText.fs (baseNo eInvalidText.base) := c.err X G 24 (d := eInvalidText) rfl base_Value tInvalidText pInvalidText kInvalidText
theorem SaysX.xInvalidClaim (c : SaysX K) (X : K.In h) (G : h.Ns mainGlobals mg) : ErrX PP K mg (c0 K) (c1 K) (c2 K) (c3 K) eInvalidClaim.name eInvalidClaim.fs (baseNo eInvalidClaim.base) := c.err X G 25 (d := eInvalidClaim) rfl base_Value tInvalidClaim pInvalidClaim kInvalidClaim
theorem SaysX.xInvalidCommand (c : SaysX K) (X : K.In h) (G : h.Ns mainGlobals mg) : ErrX PP K mg (c0 K) (c1 K) (c2 K) (c3 K) eInvalidCommand.name eInvalidCommand.fs (baseNo eInvalidCommand.base) := c.err X G 26 (d := eInvalidCommand) rfl base_Value tInvalidCommand pInvalidCommand kInvalidCommand
theorem SaysX.xUnknownKind (c : SaysX K) (X : K.In h) (G : h.Ns mainGlobals mg) : ErrX PP K mg (c0 K) (c1 K) (c2 K) (c3 K) eUnknownKind.name eUnknownKind.fs (baseNo eUnknownKind.base) := c.err X G 27 (d := eUnknownKind) rfl base_Lookup tUnknownKind pUnknownKind kUnknownKind
theorem SaysX.xUnknownLink (c : SaysX K) (X : K.In h) (G : h.Ns mainGlobals mg) : ErrX PP K mg (c0 K) (c1 K) (c2 K) (c3 K) eUnknownLink.name eUnknownLink.fs (baseNo eUnknownLink.base) := c.err X G 28 (d := eUnknownLink) rfl base_Lookup tUnknownLink pUnknownLink kUnknownLink
theorem SaysX.xUnknownObject (c : SaysX K) (X : K.In h) (G : h.Ns mainGlobals mg) : ErrX PP K mg (c0 K) (c1 K) (c2 K) (c3 K) eUnknownObject.name eUnknownObject.fs (baseNo eUnknownObject.base) := c.err X G 29 (d := eUnknownObject) rfl base_Lookup tUnknownObject pUnknownObject kUnknownObject
theorem SaysX.xUnknownTarget (c : SaysX K) (X : K.In h) (G : h.Ns mainGlobals mg) : ErrX PP K mg (c0 K) (c1 K) (c2 K) (c3 K) eUnknownTarget.name eUnknownTarget.fs (baseNo eUnknownTarget.base) := c.err X G 30 (d := eUnknownTarget) rfl base_Lookup tUnknownTarget pUnknownTarget kUnknownTarget
theorem SaysX.xUnknownSpot (c : SaysX K) (X : K.In h) (G : h.Ns mainGlobals mg) : ErrX PP K mg (c0 K) (c1 K) (c2 K) (c3 K) eUnknownSpot.name eUnknownSpot.fs (baseNo eUnknownSpot.base) := c.err X G 31 (d := eUnknownSpot) rfl base_Lookup tUnknownSpot pUnknownSpot kUnknownSpot
theorem SaysX.xUnknownPath (c : SaysX K) (X : K.In h) (G : h.Ns mainGlobals mg) : ErrX PP K mg (c0 K) (c1 K) (c2 K) (c3 K) eUnknownPath.name eUnknownPath.fs (baseNo eUnknownPath.base) := c.err X G 32 (d := eUnknownPath) rfl base_Lookup tUnknownPath pUnknownPath kUnknownPath
theorem SaysX.xUnknownFind (c : SaysX K) (X : K.In h) (G : h.Ns mainGlobals mg) : ErrX PP K mg (c0 K) (c1 K) (c2 K) (c3 K) eUnknownFind.name eUnknownFind.fs (baseNo eUnknownFind.base) := c.err X G 33 (d := eUnknownFind) rfl base_Lookup tUnknownFind pUnknownFind kUnknownFind
theorem SaysX.xUnknownName (c : SaysX K) (X : K.In h) (G : h.Ns mainGlobals mg) : ErrX PP K mg (c0 K) (c1 K) (c2 K) (c3 K) eUnknownName.name eUnknownName.fs (baseNo eUnknownName.base) := c.err X G 34 (d := eUnknownName) rfl base_Lookup tUnknownName pUnknownName kUnknownName
theorem SaysX.xTargetTaken (c : SaysX K) (X : K.In h) (G : h.Ns mainGlobals mg) : ErrX PP K mg (c0 K) (c1 K) (c2 K) (c3 K) eTargetTaken.name eTargetTaken.fs (baseNo eTargetTaken.base) := c.err X G 35 (d := eTargetTaken) rfl base_Runtime tTargetTaken pTargetTaken kTargetTaken
theorem SaysX.xRowRefused (c : SaysX K) (X : K.In h) (G : h.Ns mainGlobals mg) : ErrX PP K mg (c0 K) (c1 K) (c2 K) (c3 K) eRowRefused.name eRowRefused.fs (baseNo eRowRefused.base) := c.err X G 36 (d := eRowRefused) rfl base_Runtime tRowRefused pRowRefused kRowRefused
theorem SaysX.xLinkRing (c : SaysX K) (X : K.In h) (G : h.Ns mainGlobals mg) : ErrX PP K mg (c0 K) (c1 K) (c2 K) (c3 K) eLinkRing.name eLinkRing.fs (baseNo eLinkRing.base) := c.err X G 37 (d := eLinkRing) rfl base_Runtime tLinkRing pLinkRing kLinkRing
theorem SaysX.xWordRefused (c : SaysX K) (X : K.In h) (G : h.Ns mainGlobals mg) : ErrX PP K mg (c0 K) (c1 K) (c2 K) (c3 K) eWordRefused.name eWordRefused.fs (baseNo eWordRefused.base) := c.err X G 38 (d := eWordRefused) rfl base_Runtime tWordRefused pWordRefused kWordRefused
theorem SaysX.xOtherSchema (c : SaysX K) (X : K.In h) (G : h.Ns mainGlobals mg) : ErrX PP K mg (c0 K) (c1 K) (c2 K) (c3 K) eOtherSchema.name eOtherSchema.fs (baseNo eOtherSchema.base) := c.err X G 39 (d := eOtherSchema) rfl base_Runtime tOtherSchema pOtherSchema kOtherSchema
theorem SaysX.xOtherFinds (c : SaysX K) (X : K.In h) (G : h.Ns mainGlobals mg) : ErrX PP K mg (c0 K) (c1 K) (c2 K) (c3 K) eOtherFinds.name eOtherFinds.fs (baseNo eOtherFinds.base) := c.err X G 40 (d := eOtherFinds) rfl base_Runtime tOtherFinds pOtherFinds kOtherFinds
theorem SaysX.xNameTaken (c : SaysX K) (X : K.In h) (G : h.Ns mainGlobals mg) : ErrX PP K mg (c0 K) (c1 K) (c2 K) (c3 K) eNameTaken.name eNameTaken.fs (baseNo eNameTaken.base) := c.err X G 41 (d := eNameTaken) rfl base_Runtime tNameTaken pNameTaken kNameTaken
theorem SaysX.xNotKept (c : SaysX K) (X : K.In h) (G : h.Ns mainGlobals mg) : ErrX PP K mg (c0 K) (c1 K) (c2 K) (c3 K) eNotKept.name eNotKept.fs (baseNo eNotKept.base) := c.err X G 42 (d := eNotKept) rfl base_Runtime tNotKept pNotKept kNotKept
theorem SaysX.xChangesRefused (c : SaysX K) (X : K.In h) (G : h.Ns mainGlobals mg) : ErrX PP K mg (c0 K) (c1 K) (c2 K) (c3 K) eChangesRefused.name eChangesRefused.fs (baseNo eChangesRefused.base) := c.err X G 43 (d := eChangesRefused) rfl base_Runtime tChangesRefused pChangesRefused kChangesRefused
theorem SaysX.xSaveRefused (c : SaysX K) (X : K.In h) (G : h.Ns mainGlobals mg) : ErrX PP K mg (c0 K) (c1 K) (c2 K) (c3 K) eSaveRefused.name eSaveRefused.fs (baseNo eSaveRefused.base) := c.err X G 44 (d := eSaveRefused) rfl base_Runtime tSaveRefused pSaveRefused kSaveRefused
theorem SaysX.xNothingToUndo (c : SaysX K) (X : K.In h) (G : h.Ns mainGlobals mg) : ErrX PP K mg (c0 K) (c1 K) (c2 K) (c3 K) eNothingToUndo.name eNothingToUndo.fs (baseNo eNothingToUndo.base) := c.err X G 45 (d := eNothingToUndo) rfl base_Runtime tNothingToUndo pNothingToUndo kNothingToUndo
theorem SaysX.xCommandFailed (c : SaysX K) (X : K.In h) (G : h.Ns mainGlobals mg) : ErrX PP K mg (c0 K) (c1 K) (c2 K) (c3 K) eCommandFailed.name eCommandFailed.fs (baseNo eCommandFailed.base) := c.err X G 46 (d := eCommandFailed) rfl base_Runtime tCommandFailed pCommandFailed kCommandFailed
theorem SaysX.xTooMany (c : SaysX K) (X : K.In h) (G : h.Ns mainGlobals mg) : ErrX PP K mg (c0 K) (c1 K) (c2 K) (c3 K) eTooMany.name eTooMany.fs (baseNo eTooMany.base) := c.err X G 47 (d := eTooMany) rfl base_Arith tTooMany pTooMany kTooMany
theorem allX_cons {P : Program} {K : PySem.W.Frag} {mg : Str → Option Value} {C0 C1 C2 C3 : Addr} {q : Str × List Str × Nat} {l : List (Str × List Str × Nat)} (a : ErrX P K mg C0 C1 C2 C3 q.1 q.2.1 q.2.2) (b : ∀ q ∈ l, ErrX P K mg C0 C1 C2 C3 q.1 q.2.1 q.2.2) : ∀ p ∈ q :: l, ErrX P K mg C0 C1 C2 C3 p.1 p.2.1 p.2.2 := List.forall_mem_cons.mpr ⟨a, b⟩
theorem SaysX.tableA (c : SaysX K) (X : K.In h) (G : h.Ns mainGlobals mg) : ∀ q ∈ tableA, ErrX PP K mg (c0 K) (c1 K) (c2 K) (c3 K) q.1 q.2.1 q.2.2 :=
  allX_cons (c.xInvalidKinds X G) (allX_cons (c.xInvalidFields X G) (allX_cons (c.xInvalidFlags X G) (allX_cons (c.xInvalidSchema X G) (allX_cons (c.xInvalidId X G) (allX_cons (c.xInvalidRow X G) (allX_cons (c.xInvalidRows X G) (allX_cons (c.xInvalidStore X G) (allX_cons (c.xInvalidWalk X G) (allX_cons (c.xNoWalk X G) (allX_cons (c.xInvalidRoots X G) (allX_cons (c.xInvalidWord X G) (allX_cons (c.xInvalidPlan X G) (allX_cons (c.xInvalidLinks X G) (allX_cons (c.xInvalidRoute X G) (allX_cons (c.xInvalidPlace X G) (allX_cons (c.xInvalidPlaces X G) (allX_cons (c.xInvalidSizeName X G) (allX_cons (c.xInvalidSize X G) (allX_cons (c.xInvalidSizes X G) (allX_cons (c.xInvalidNumber X G) (allX_cons (c.xInvalidSum X G) (allX_cons (c.xInvalidChange X G) (allX_cons (c.xInvalidValue X G) (allX_cons (c.xInvalidText X G) (allX_cons (c.xInvalidClaim X G) (allX_cons (c.xInvalidCommand X G) (List.forall_mem_nil _)))))))))))))))))))))))))))
theorem SaysX.tableB (c : SaysX K) (X : K.In h) (G : h.Ns mainGlobals mg) : ∀ q ∈ tableB, ErrX PP K mg (c0 K) (c1 K) (c2 K) (c3 K) q.1 q.2.1 q.2.2 :=
  allX_cons (c.xUnknownKind X G) (allX_cons (c.xUnknownLink X G) (allX_cons (c.xUnknownObject X G) (allX_cons (c.xUnknownTarget X G) (allX_cons (c.xUnknownSpot X G) (allX_cons (c.xUnknownPath X G) (allX_cons (c.xUnknownFind X G) (allX_cons (c.xUnknownName X G) (allX_cons (c.xTargetTaken X G) (allX_cons (c.xRowRefused X G) (allX_cons (c.xLinkRing X G) (allX_cons (c.xWordRefused X G) (allX_cons (c.xOtherSchema X G) (allX_cons (c.xOtherFinds X G) (allX_cons (c.xNameTaken X G) (allX_cons (c.xNotKept X G) (allX_cons (c.xChangesRefused X G) (allX_cons (c.xSaveRefused X G) (allX_cons (c.xNothingToUndo X G) (allX_cons (c.xCommandFailed X G) (allX_cons (c.xTooMany X G) (List.forall_mem_nil _)))))))))))))))))))))
theorem SaysX.table (c : SaysX K) (X : K.In h) (G : h.Ns mainGlobals mg) : ∀ q ∈ table, ErrX PP K mg (c0 K) (c1 K) (c2 K) (c3 K) q.1 q.2.1 q.2.2 := List.forall_mem_append.mpr ⟨c.tableA X G, c.tableB X G⟩
theorem SaysX.bl (c : SaysX K) (X : K.In h) (G : h.Ns mainGlobals mg) : Bl mg := ⟨(He.free_ok X G (c.d.fact 17 (f := .free "len"))), (He.free_ok X G (c.d.fact 18 (f := .free "abs"))), (He.free_ok X G (c.d.fact 19 (f := .free "max"))), (He.free_ok X G (c.d.fact 20 (f := .free "min"))), (He.free_ok X G (c.d.fact 21 (f := .free "int"))), (He.free_ok X G (c.d.fact 22 (f := .free "divmod"))), (He.free_ok X G (c.d.fact 23 (f := .free "isinstance"))), (He.free_ok X G (c.d.fact 24 (f := .free "repr"))), (He.free_ok X G (c.d.fact 25 (f := .free "range"))), (He.free_ok X G (c.d.fact 26 (f := .free "all"))), (He.free_ok X G (c.d.fact 27 (f := .free "super")))⟩
theorem SaysX.bt (c : SaysX K) (X : K.In h) (G : h.Ns mainGlobals mg) : BT K mg (c0 K) (c1 K) (c2 K) (c3 K) := ⟨(He.glo_ok X G (c.d.fact 13 (f := .glo "FetchError"))), (He.glo_ok X G (c.d.fact 14 (f := .glo "MissingError"))), (He.glo_ok X G (c.d.fact 15 (f := .glo "StateError"))), (He.glo_ok X G (c.d.fact 16 (f := .glo "LimitError"))), (He.free_ok X G (c.d.fact 28 (f := .free "ValueError"))), (He.free_ok X G (c.d.fact 29 (f := .free "LookupError"))), (He.free_ok X G (c.d.fact 30 (f := .free "RuntimeError"))), (He.free_ok X G (c.d.fact 31 (f := .free "ArithmeticError")))⟩
theorem SaysX.law (c : SaysX K) (X : K.In h) (G : h.Ns mainGlobals mg) {w : World} {f : Addr} (hf : mg "law" = some (.ref f)) : ∃ fd, FnP K "law" sLaw f fd ∧ ∀ base : Heap, K.In base → base.Ns mainGlobals mg → FnG PP w K mg base CX0 4 f fd ["_law_script"] (spLaw K) := by
  obtain ⟨dPot, FPot⟩ := c.d.def_ 0 (d := dsPot)
  have gPot : mg "_law_pot" = some (.ref (He.fAd K ("_law_pot", none))) := (He.glo_ok X G (c.d.fact 0 (f := .glo "_law_pot")))
  obtain ⟨dDraw, FDraw⟩ := c.d.def_ 1 (d := dsDraw)
  have gDraw : mg "_law_draw" = some (.ref (He.fAd K ("_law_draw", none))) := (He.glo_ok X G (c.d.fact 1 (f := .glo "_law_draw")))
  obtain ⟨dPick, FPick⟩ := c.d.def_ 2 (d := dsPick)
  have gPick : mg "_law_pick" = some (.ref (He.fAd K ("_law_pick", none))) := (He.glo_ok X G (c.d.fact 2 (f := .glo "_law_pick")))
  obtain ⟨dFetch, FFetch⟩ := c.d.def_ 3 (d := dsFetch)
  have gFetch : mg "_law_fetch" = some (.ref (He.fAd K ("_law_fetch", none))) := (He.glo_ok X G (c.d.fact 3 (f := .glo "_law_fetch")))
  obtain ⟨dToo, FToo⟩ := c.d.def_ 4 (d := dsToo)
  have gToo : mg "_law_fetch_too" = some (.ref (He.fAd K ("_law_fetch_too", none))) := (He.glo_ok X G (c.d.fact 4 (f := .glo "_law_fetch_too")))
  obtain ⟨dMissing, FMissing⟩ := c.d.def_ 5 (d := dsMissing)
  have gMissing : mg "_law_missing" = some (.ref (He.fAd K ("_law_missing", none))) := (He.glo_ok X G (c.d.fact 5 (f := .glo "_law_missing")))
  obtain ⟨dState, FState⟩ := c.d.def_ 6 (d := dsState)
  have gState : mg "_law_state" = some (.ref (He.fAd K ("_law_state", none))) := (He.glo_ok X G (c.d.fact 6 (f := .glo "_law_state")))
  obtain ⟨dLimit, FLimit⟩ := c.d.def_ 7 (d := dsLimit)
  have gLimit : mg "_law_limit" = some (.ref (He.fAd K ("_law_limit", none))) := (He.glo_ok X G (c.d.fact 7 (f := .glo "_law_limit")))
  obtain ⟨dPart, FPart⟩ := c.d.def_ 8 (d := dsPart)
  have gPart : mg "_law_part" = some (.ref (He.fAd K ("_law_part", none))) := (He.glo_ok X G (c.d.fact 8 (f := .glo "_law_part")))
  obtain ⟨dBases, FBases⟩ := c.d.def_ 9 (d := dsBases)
  have gBases : mg "_law_bases" = some (.ref (He.fAd K ("_law_bases", none))) := (He.glo_ok X G (c.d.fact 9 (f := .glo "_law_bases")))
  obtain ⟨dAre, FAre⟩ := c.d.def_ 10 (d := dsAre)
  have gAre : mg "_law_are_right" = some (.ref (He.fAd K ("_law_are_right", none))) := (He.glo_ok X G (c.d.fact 10 (f := .glo "_law_are_right")))
  obtain ⟨dRight, FRight⟩ := c.d.def_ 11 (d := dsRight)
  have gRight : mg "_law_right" = some (.ref (He.fAd K ("_law_right", none))) := (He.glo_ok X G (c.d.fact 11 (f := .glo "_law_right")))
  obtain ⟨dLaw, FLaw⟩ := c.d.def_ 12 (d := dsLaw)
  have gLaw : mg "law" = some (.ref (He.fAd K ("law", none))) := (He.glo_ok X G (c.d.fact 12 (f := .glo "law")))
  have B := c.bl X G
  have T := c.bt X G
  have E := c.table X G
  have ef : He.fAd K ("law", none) = f := by
    rw [gLaw] at hf
    injection hf with e
    injection e
  refine ⟨dLaw, ef ▸ FLaw, fun base KB GB => ?_⟩
  refine ok_law (ef ▸ FLaw) B FPot gPot ?_ FRight gRight
  exact ok_right FRight B (ok_pick FPick B FDraw gDraw) FPick gPick (ok_are FAre B c.sys T FPart gPart FBases gBases) FAre gAre (ok_Fetch FFetch B E) FFetch gFetch (ok_Too FToo B E) FToo gToo (ok_Missing FMissing B E) FMissing gMissing (ok_State FState B E) FState gState (ok_Limit FLimit B E) FLimit gLimit
end
end K14
end
set_option Elab.async false
set_option linter.all false
set_option maxRecDepth 100000
set_option maxHeartbeats 0
open PySem PySem.W PySem.Calls PyProof.Rows
theorem PySem.Challenge.cw_fetchwalks_k14_errors_made_holds : PySem.Challenge.rw_fetchwalks_k14_errors_made.Holds := by
  w_on; o_law
  refine HandSHeadRun.head_any (r := OpenLaw.row PySem.Challenge.rw_fetchwalks_k14_errors_made) (q := view (OpenLaw.row PySem.Challenge.rw_fetchwalks_k14_errors_made).prog [66]) (H := K14.hk) (ob := K14.ob) (M := 20000) (loose := K14.names) (d := HandSHeadRun.topDef (OpenLaw.row PySem.Challenge.rw_fetchwalks_k14_errors_made).prog 66) (kwd := []) K14.ob_eq
    (by kernel_rfl) (fun s => by kernel_rfl) K14.run (by kernel_rfl) (by kernel_rfl) (by kernel_rfl) (by rfl) (by first | assumption | decide +kernel) (by decide +kernel) ⟨rfl, rfl, rfl, rfl, rfl, by decide +kernel⟩ ?hw ?hc
  case hw => w_witness2
  case hc =>
    refine L2.walk_ofG (l := PySem.Challenge.rw_fetchwalks_k14_errors_made) (n := 63) (k := 4) (x := "_law_script") (CX := L2.CX0) rfl (by decide) (by kernel_rfl) ⟨rfl, by decide, by decide⟩ ?F (fun _ _ _ _ z => z)
    intro w mg fa h Y G hmg0
    obtain ⟨K, KX, c⟩ := Y
    have hmg : mg ("law" : PySem.Str) = some (.ref fa) := by
      have e : (HandSHeadRun.topDef (OpenLaw.row PySem.Challenge.rw_fetchwalks_k14_errors_made).prog 66).name = ("law" : PySem.Str) := by kernel_rfl
      rw [← e]
      exact hmg0
    obtain ⟨fd, F, hF⟩ := K14.SaysX.law c KX G (w := w) hmg
    have b := L2.FunD.bindsA (ps := ["_law_script"]) F fun _ _ _ _ _ _ us hl => match us, hl with | [_], _ => rfl
    exact ⟨K, fd, K14.spLaw K, KX, fun s v => b s [v] rfl, fun H a ns hl _ hS => ⟨a, ns, rfl, hS, hl, fun _ => rfl⟩, hF⟩
