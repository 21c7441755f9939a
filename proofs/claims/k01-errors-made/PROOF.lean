import PyProof.Rows.All
import Wide.All
import OpenK.AllK
import Wide.FinOn
import KE.KFromBytes
import KE.KExcIs
import HandS.ForMost
import HandS.ExcInit
import HandS.ExcSuper
import KE.KSuperObj
import KE.KSuper
import HandS.Nested
import HandS.HeadWalk
import HandS.ExcField
import HandS.Defaults
import HandS.Wide
import HandS.EndBits
import HandS.HeadHook2
import HandS.Head2
import PySem.Challenge.RW_owedrebuilds_k01_errors_made
import HandS.Style
set_option Elab.async false
set_option linter.all false
set_option maxRecDepth 100000
set_option maxHeartbeats 4000000

/-! Ow.1: an exception class of the text, called with keywords too -/
namespace PySem
namespace OwE
open Builtin Builtin.ObjectAttr HandSPX
section
variable {M : Model} {A : Around} {E : Value → Shared → Prop} {h : Heap} {g : Array GenState} {d : Drawn} {t : Nat} {os : OsState}
variable {nm q : Str} {C N : Addr} {bs bm bmB : List Value} {hdct : Bool} {sn : List Str} {sub : List Value} {ab : Bool} {col : Option Bool} {dd : Option Addr} {k0 k1 k2 k3 k5 : Option Value} {B newId initId : String}
theorem newK_check (F : ExcBaseFacts B newId initId bmB) (hT : ∀ X : String, bm.contains (.type X) = bmB.contains (.type X)) {rest : List Value} {kw : List (Str × Value)} {Q : Unit → Shared → Prop}
    (hC : h.get? C = some (excClassObj nm q C N bs bm hdct sn sub ab col dd k0 k1 k2 k3 k5 newId)) (hq : Q () ⟨h, g, d, t, os⟩) : wpAny M A (checkBuiltinCall newId ⟨.ref C :: rest, kw⟩) Q E ⟨h, g, d, t, os⟩ := by
  have hcont : (Value.ref C :: bm).contains (.type B) = true := by rw [List.contains_cons, hT, F.hasB, Bool.or_true]
  have hstar := F.noStar
  simp only [checkBuiltinCall, F.newKind, F.newSplit, F.newRow]
  repeat (first | refine wpAny_loadPart_at hC ?_ | (refine wpAny_isSubtype_exc hC ?_; rw [hcont]) | refine wpAny_staticBase_exc hC ?_ | refine wpAny_madeBy_exc hC ?_ | simp only [bne_self_eq_false, Bool.false_eq_true, if_false] | wp_step)
  exact hq
end
section
variable {prog : Program} {w : World} {A : Around} {E : Value → Shared → Prop} {R : Result → Shared → Prop} {h : Heap} {g : Array GenState} {d : Drawn} {t : Nat} {os : OsState}
variable {nm q : Str} {C N : Addr} {bs bm bmB : List Value} {hdct : Bool} {sn : List Str} {sub : List Value} {ab : Bool} {col : Option Bool} {dd : Option Addr} {k0 k1 k2 k3 k5 : Option Value} {B newId initId : String}
theorem newK (F : ExcBaseFacts B newId initId bmB) (hT : ∀ X : String, bm.contains (.type X) = bmB.contains (.type X)) {rest : List Value} {kw : List (Str × Value)}
    (hC : h.get? C = some (excClassObj nm q C N bs bm hdct sn sub ab col dd k0 k1 k2 k3 k5 newId))
    (hq : R (.ok (.ret (.ref (h.objs.size + 1)))) ⟨(h.push { cls := .type "tuple", data := .seq rest.toArray }).push
      { cls := .ref C, data := .fields #[.ref h.objs.size, .none, .none, .none, .bool false, .none] }, g, d, t, os⟩) (hrest : rest.length ≤ sizeLine) :
    codeAny (model prog w) A (.builtin newId ⟨.ref C :: rest, kw⟩) R ⟨h, g, d, t, os⟩ := by
  have hends := F.ends
  have hcB : (Value.ref C :: bm).contains (.type B) = true := by rw [List.contains_cons, hT, F.hasB, Bool.or_true]
  have hcA : (Value.ref C :: bm).contains (.type "AttributeError") = false := by rw [List.contains_cons, hT, F.noAttr]; rfl
  have hcN : (Value.ref C :: bm).contains (.type "NameError") = false := by rw [List.contains_cons, hT, F.noName]; rfl
  refine codeAny_builtinAt F.entry ?_
  unfold Builtin.«BaseException.__new__»
  refine wpAt_bind ?_
  show wpAt _ _ _ (stack >>= _) _ _ _
  refine wpAt_bind (wpAt_stack fun p below => wpAt_of_wpAny ?_)
  wp_walk
  refine wpAt_of_wpAny ?_
  rw [F.owner]
  repeat (first | with_reducible refine wpAny_madeHere_exc F.canon hC ?_ | with_reducible refine wpAny_loadPart_at hC ?_ | (with_reducible refine wpAny_isSubtype_exc hC ?_; first | rw [hcB] | rw [hcA] | rw [hcN]) | wp_step)
  show R _ _
  rw [Heap.size_push]
  exact hq
theorem typeCallK (F : ExcBaseFacts B newId initId bmB) (hT : ∀ X : String, bm.contains (.type X) = bmB.contains (.type X)) {rest : List Value} {kw : List (Str × Value)} {fI : Addr} {Q : Fin → Shared → Prop}
    (hC : h.get? C = some (excClassObj nm q C N bs bm hdct sn sub ab col dd k0 k1 k2 k3 k5 newId))
    (hi : W.Looks (model prog w) h (typeLookup (.ref C) "__init__") (some (.ref fI))) (hb : ∀ self, W.Looks (model prog w) h (bindSpecial (.ref fI) self) (.ref fI, [self])) (hrest : rest.length ≤ sizeLine)
    (hq : codeAny (model prog w) A (.call (.ref fI) ⟨.ref (h.objs.size + 1) :: rest, kw⟩)
      (fun r s' => match r with | .ok (.ret v) => v = .none ∧ Q (.done (.ret (.ref (h.objs.size + 1)))) s' | .ok _ => False | .error e => E e s')
      ⟨(h.push (W.kdv_tup rest)).push (excO C h.objs.size), g, d, t, os⟩) :
    wpAny (model prog w) A (Builtin.«type.__call__» ⟨.ref C :: rest, kw⟩) Q E ⟨h, g, d, t, os⟩ := by
  repeat (first | with_reducible refine wpAny_loadPart_at hC ?_ | with_reducible refine wpAny_madeBy_exc hC ?_ | wp_step)
  refine codeAny_call_builtin_code (Code.quiet_builtin _ F.quiet) (newK_check F hT hC ?_)
  refine newK F hT hC ?_ hrest
  show wpAny _ _ _ _ _ _
  have k : ∀ b o, h.get? b = some o → ((h.push (W.kdv_tup rest)).push (excO C h.objs.size)).get? b = some o := fun b o e => Heap.get?_push_of_some _ (Heap.get?_push_of_some _ e)
  have hC₁ := k _ _ hC
  have hget : ((h.push (W.kdv_tup rest)).push (excO C h.objs.size)).get? (h.objs.size + 1) = some (excO C h.objs.size) := by heap_get
  have hcC : (Value.ref C :: bm).contains (.ref C) = true := by simp
  have i1 := hi.keeps k
  have b1 := (hb (.ref (h.objs.size + 1))).keeps k
  unfold isInstance
  repeat (first | with_reducible refine wpAny_loadPart_at hget ?_ | (with_reducible refine wpAny_isSubtype_exc hC₁ ?_; rw [hcC]) | wp_step)
  show wpAny _ _ (typeLookup (.ref C) _) _ _ _
  refine i1.at ?_
  refine wpAny_holding (wpAny_bind (b1.at ?_))
  refine wpAny_bind (wpAny_call (codeAny_mono hq fun r s' z => ?_))
  rcases r with e | (v | _ | _ | _) <;> first | exact z | exact z.elim | skip
  obtain ⟨rfl, z⟩ := z
  first
    | exact wpAny_pure (wpAny_pure z)
    | (wp_walk; exact z)
theorem callK (F : ExcBaseFacts B newId initId bmB) (hT : ∀ X : String, bm.contains (.type X) = bmB.contains (.type X)) {rest : List Value} {kw : List (Str × Value)} {fI : Addr}
    (hC : h.get? C = some (excClassObj nm q C N bs bm hdct sn sub ab col dd k0 k1 k2 k3 k5 newId))
    (hi : W.Looks (model prog w) h (typeLookup (.ref C) "__init__") (some (.ref fI))) (hb : ∀ self, W.Looks (model prog w) h (bindSpecial (.ref fI) self) (.ref fI, [self])) (hrest : rest.length ≤ sizeLine)
    (hq : codeAny (model prog w) (A.under (.builtin "type.__call__" ⟨.ref C :: rest, kw⟩)) (.call (.ref fI) ⟨.ref (h.objs.size + 1) :: rest, kw⟩) (W.InitBack (h.objs.size + 1) R)
      ⟨(h.push (W.kdv_tup rest)).push (excO C h.objs.size), g, d, t, os⟩) :
    codeAny (model prog w) A (.call (.ref C) ⟨rest, kw⟩) R ⟨h, g, d, t, os⟩ := by
  have f1 := tc_lookup
  have f2 := tc_bind (.ref C)
  have hTy : (⟨h, g, d, t, os⟩ : Shared).TypeIs (.ref C) "type" := ⟨_, hC, rfl⟩
  refine codeAny_of_tree ?_
  show wpAny _ _ (callAny (.ref C) _) _ _ _
  repeat (any_goals (first | assumption | with_reducible refine wpAny_loadPart_at hC ?_ | wp_step))
  refine ⟨rfl, ?_⟩
  refine codeAny_call_builtin_at (Code.quiet_builtin _ (by decide +kernel)) entry_typeCall (wpAny_check_type_call_sub hC (typeCallK F hT hC hi hb hrest ?_))
  refine codeAny_mono hq fun r s' z => ?_
  rcases r with e | (v | _ | _ | _) <;> exact z
end
end OwE
end PySem

/-! Ow.2: super().__init__(text) in an exception class over ValueError -/
namespace PySem
namespace OwE
abbrev bwV (x : Addr) : Obj := { cls := .type "method-wrapper", dict := none, data := .fields #[.builtin "ValueError.__init__", .ref x], slots := #[] }
theorem type_vi : typeOf (.builtin "ValueError.__init__") = pure (.type "wrapper_descriptor") := by show builtinType _ = _; rw [builtinType_eq_fast]; kernel_rfl
theorem nac_vi : (kfb_private% "nameAndClass") (Value.builtin "ValueError.__init__") = (pure (("__init__" : Str), Value.type "ValueError") : Sem (Str × Value)) := by kernel_rfl
section
open PySem.W
variable {prog : Program} {w : World} {M : Model} {A : Around} {E : Value → Shared → Prop} {h : Heap} {g : Array GenState} {d : Drawn} {t : Nat} {os : OsState}
theorem wd_run {x C : Addr} {P : Fin → Shared → Prop} (hin : W.Looks M h (isInstance (.ref x) (.type "ValueError")) true) (hq : P (.done (.ret (.ref h.objs.size))) ⟨h.push (bwV x), g, d, t, os⟩) :
    wpAny M A (Builtin.«wrapper_descriptor.__get__» ⟨[.builtin "ValueError.__init__", .ref x, .ref C], []⟩) P E ⟨h, g, d, t, os⟩ := by
  unfold Builtin.«wrapper_descriptor.__get__»
  refine wpAny_bind (wpAny_of_eq (a := (.builtin "ValueError.__init__", some (.ref x), some (.ref C))) (by first | rfl | kernel_rfl) ?_)
  show wpAny M A ((kfb_private% "checkInstance") (.builtin "ValueError.__init__") (.ref x) >>= fun _ => newFields "method-wrapper" [.builtin "ValueError.__init__", .ref x] >>= fun r => ret r) P E _
  refine wpAny_bind ?_
  show wpAny M A ((kfb_private% "nameAndClass") (.builtin "ValueError.__init__") >>= _) _ E _
  refine wpAny_bind (wpAny_of_eq nac_vi ?_)
  show wpAny M A (isInstance (.ref x) (.type "ValueError") >>= _) _ E _
  refine wpAny_bind (hin.at ?_)
  refine KFB.if_not rfl ?_
  refine wpAny_pure ?_
  exact wpAny_bind (wpAny_newObj_type (wpAny_pure hq))
theorem sup_ga {so D x C : Addr} {l₀ l : List Value} {K : Frag} {name : Str} {tk : Tok} {Q : Fin → Shared → Prop}
    (hso : h.get? so = some { cls := .type "super", dict := none, data := .fields #[.ref D, .ref x, .ref C], slots := #[] }) (hno : W.Looks (model prog w) h (opaqueClassAbove (.ref C)) none)
    (hC : W.Looks (model prog w) h (mroOf (.ref C)) l₀) (hl : (l₀.dropWhile (· != .ref D)).drop 1 = l) (X : K.In h)
    (hf : alongIn K name l = some (some (.builtin "ValueError.__init__"))) (hxC : x ≠ C) (hn : (name == ("__class__" : Str)) = false) (hin : W.Looks (model prog w) h (isInstance (.ref x) (.type "ValueError")) true)
    (hq : Q (.done (.ret (.ref h.objs.size))) ⟨h.push (bwV x), g, d, t, os⟩) :
    wpAny (model prog w) A (Builtin.«super.__getattribute__» ⟨[.ref so, .str name tk], []⟩) Q E ⟨h, g, d, t, os⟩ := by
  have hlk := ESX.slot_wd.lookup
  have hne : (Value.ref x == Value.ref C) = false := by simp [hxC]
  have hTf := type_vi
  have hTi : Shared.TypeIs ⟨h, g, d, t, os⟩ (.builtin "ValueError.__init__") "wrapper_descriptor" := type_vi
  have hdt : ({ cls := .type "super", dict := none, data := .fields #[.ref D, .ref x, .ref C], slots := #[] } : Obj).data = .fields #[.ref D, .ref x, .ref C] := rfl
  have f0 : (#[.ref D, .ref x, .ref C] : Array Value)[0]? = some (.ref D) := rfl
  have f1 : (#[.ref D, .ref x, .ref C] : Array Value)[1]? = some (.ref x) := rfl
  have f2 : (#[.ref D, .ref x, .ref C] : Array Value)[2]? = some (.ref C) := rfl
  unfold Builtin.«super.__getattribute__»
  repeat (first
    | (with_reducible refine wpAny_field hso hdt f0 ?_) | (with_reducible refine wpAny_field hso hdt f1 ?_) | (with_reducible refine wpAny_field hso hdt f2 ?_)
    | (with_reducible refine ks_wpAny_notOpaque hno ?_)
    | (with_reducible refine Looks.at hC ?_; rw [hl])
    | (refine ks_forIn_along X (fun _ _ => rfl) rfl ?_ hf)
    | (with_reducible refine wpAny_call_entry ESX.slot_wd hTi ESX.entry_wd ?_ (ESX.args_wd _ _ _))
    | (with_reducible refine wd_run hin ?_)
    | (with_reducible refine ⟨_, rfl, ?_⟩)
    | (simp only [hn, hne, Bool.or_false, Bool.false_eq_true, if_false])
    | wp_step
    | dsimp only)
  all_goals exact hq
theorem sup_method {so D x C : Addr} {l₀ l : List Value} {K : Frag} {name : Str} {pl : Sem Bool} {Q : Value × List Value → Shared → Prop}
    (hso : h.get? so = some { cls := .type "super", dict := none, data := .fields #[.ref D, .ref x, .ref C], slots := #[] }) (hno : W.Looks (model prog w) h (opaqueClassAbove (.ref C)) none)
    (hC : W.Looks (model prog w) h (mroOf (.ref C)) l₀) (hl : (l₀.dropWhile (· != .ref D)).drop 1 = l) (X : K.In h)
    (hf : alongIn K name l = some (some (.builtin "ValueError.__init__"))) (hxC : x ≠ C) (hn : (name == ("__class__" : Str)) = false) (hin : W.Looks (model prog w) h (isInstance (.ref x) (.type "ValueError")) true)
    (hq : Q (.ref h.objs.size, []) ⟨h.push (bwV x), g, d, t + 1, os⟩) :
    wpAny (model prog w) A (getMethod (.ref so) name pl) Q E ⟨h, g, d, t, os⟩ := by
  have hlk := F.ks_slot_super_ga.lookup
  have hcan := F.ks_canon_super_ga
  have hT : ∀ t', (⟨h, g, d, t', os⟩ : Shared).TypeIs (.ref so) "super" := fun _ => ⟨_, hso, rfl⟩
  unfold getMethod
  refine wpAny_bind (wpAny_specialOf (hT _) hlk ?_)
  show wpAny _ _ (if (Manifest.canonical "super.__getattribute__" != "object.__getattribute__") = true then _ else _) _ _ _
  rw [if_pos hcan]
  unfold getAttr getAttrBy
  refine wpAny_bind (wpAny_bind (wpAny_mkText (wpAny_holding (wpAny_bind (wpAny_typeOf (hT _) (wpAny_bind (wpAny_of_eq hlk ?_)))))))
  show wpAny _ _ (getAttrByItsOwn (.ref so) (.str name t) (.type "super") (.builtin "super.__getattribute__") true false) _ _ _
  unfold getAttrByItsOwn hookBefore callGetattribute boundAndCalled
  refine wpAny_bind (wpAny_of_eq (show (if onTheHeap (.type "super") then typeLookup (.type "super") "__getattr__" else pure none) = pure none from rfl) ?_)
  refine wpAny_bind (wpAny_attempt (wpAny_holding ?_))
  show wpAny _ _ (bindSpecial (.builtin "super.__getattribute__") (.ref so) >>= _) _ _ _
  refine wpAny_bind (wpAny_of_eq (F.ks_slot_super_ga.bind _) ?_)
  refine wpAny_mono (Q := fun v s' => v = .ref h.objs.size ∧ s' = ⟨h.push (bwV x), g, d, t + 1, os⟩) (E := fun _ _ => False)
    (wpAny_call_entry F.ks_slot_super_ga (hT _) F.ks_entry_super_ga (sup_ga hso hno hC hl X hf hxC hn hin ⟨_, rfl, rfl, rfl⟩) (F.ks_gaArgs_super _ _)) (fun v s' hv => ?_) fun _ _ z => z.elim
  obtain ⟨rfl, rfl⟩ := hv
  exact wpAny_pure (wpAny_pure hq)
end
section
open PySem.W PySem.Calls
variable {prog : Program} {w : World} {M : Model} {A : Around} {E : Value → Shared → Prop} {s : Shared}
theorem bwV_callWith {pos : Pos} {u x : Addr} {first : List Value} {args : List (Bool × Sem Value)} {Q : Value → Shared → Prop} (hplain : args.any (·.1) = false)
    (h : wpAny M A (evalArgs (.ref u) true args []) (fun a s₁ => s₁.heap.get? u = some (bwV x) ∧ wpAny M A (call (.ref u) (first ++ a.pos) a.kw) Q E s₁) E s) : wpAny M A (callWith pos (.ref u) first args []) Q E s := by
  unfold callWith
  refine wpAny_bind (wpAny_holding (wpAny_mono h (fun a s₁ h₁ => wpAny_bind (wpAny_standAt ?_)) fun _ _ x => x))
  obtain ⟨ho, hcall⟩ := h₁
  simp only [hplain, List.any_nil, Bool.or_false]
  refine wpAny_bind (m := keeperOf (.ref u)) ?_
  unfold keeperOf
  refine wpAny_bind (wpAny_load ho ?_)
  simp only [bwV, show (Value.type "method-wrapper" != Value.type "method") = true by decide, show (Value.type "method-wrapper" == Value.type "builtin_function_or_method" || Value.type "method-wrapper" == Value.type "method-wrapper") = true by decide, if_true]
  refine wpAny_pure ?_
  exact wpAny_bind (wpAny_mono hcall (fun r s₂ hr => wpAny_bind (wpAny_holding (wpAny_point (wpAny_pure hr)))) fun _ _ x => x)
theorem bwV_args {pos : Pos} {u x : Addr} {first : List Value} {env : Env} {e : Expr} {rest : List Expr} {Q : Value → Shared → Prop}
    (h : wpAny M A (spliced (backTo pos (starEach (e :: rest) env))) (fun vs s₁ => s₁.heap.get? u = some (bwV x) ∧ wpAny M A (call (.ref u) (first ++ vs)) Q E s₁) E s)
    (he : starEach (e :: rest) env = (false, eval e env) :: starEach rest env := by rfl) (hplain : (backTo pos (starEach rest env)).any (·.1) = false := by rfl) :
    wpAny M A (callWith pos (.ref u) first (backTo pos (starEach (e :: rest) env)) []) Q E s := by
  rw [he] at h ⊢
  refine bwV_callWith (x := x) (by show (false || (backTo pos (starEach rest env)).any (·.1)) = false; rw [hplain]; rfl) ?_
  exact evalArgs_plain h
end
section
variable {prog : Program} {w : World} {A : Around} {E : Value → Shared → Prop} {h : Heap} {g : Array GenState} {d : Drawn} {t : Nat} {os : OsState}
variable {nm q : Str} {C N : Addr} {bs bm : List Value} {hdct : Bool} {sn : List Str} {sub : List Value} {ab : Bool} {col : Option Bool} {dd : Option Addr} {k0 k1 k2 k3 k5 : Option Value}
theorem bwV_call {u e t0 : Addr} {rest : List Value} {Q : Value → Shared → Prop}
    (hC : h.get? C = some (excClassObj nm q C N bs bm hdct sn sub ab col dd k0 k1 k2 k3 k5 "ValueError.__new__")) (he : h.get? e = some (HandSPX.excO C t0)) (hu : h.get? u = some (bwV e)) (hrest : rest.length ≤ sizeLine)
    (hq : ∀ h' t1, (∀ b o, b ≠ e → h.get? b = some o → h'.get? b = some o) → h'.get? e = some (HandSPX.excO C t1) → Q .none ⟨h', g, d, t, os⟩) :
    wpAny (model prog w) A (call (.ref u) rest) Q E ⟨h, g, d, t, os⟩ := by
  refine wpAny_call (codeAny_of_tree ?_)
  show wpAny _ A.in1 (callAny (.ref u) ⟨rest, []⟩) _ _ _
  simp only [callAny]
  refine wpAny_bind (wpAny_load hu ?_)
  simp only [bwV, show (Value.type "method-wrapper" == Value.type "method" || Value.type "method-wrapper" == Value.type "builtin_function_or_method" || Value.type "method-wrapper" == Value.type "method-wrapper") = true by decide, if_true]
  refine W.KFB.if_so (by decide) ?_
  refine wpAny_bind (ESX.check_bound F.excBase_ValueError hC he rfl ?_)
  refine wpAny_bind (wpAny_pure (wpAny_pure ?_))
  refine ⟨Code.quiet_builtin _ (by decide +kernel), codeAny_builtin F.excBase_ValueError.initEntry ?_⟩
  rw [Around.under_plainId F.excBase_ValueError.init.plain _]
  wp_walk
  refine hq _ h.objs.size (fun b o hb ho => ?_) ?_
  · rw [Heap.get?_update_other _ _ (Ne.symm hb)]
    exact Heap.get?_push_of_some _ ho
  · rw [Heap.get?_update_self _ (Heap.get?_push_of_some _ he) rfl]
    rfl
end
end OwE
end PySem

/-! Ow.3: __init__ of an exception class of the text keeps its promise -/
namespace Ow
open PySem PySem.Spec L2 NdefX
/-- what the written part says of an exception class and its __init__ F, which stands at f -/
structure ExK (P : Program) (K : PySem.W.Frag) (mg : Str → Option Value) (C f : Addr) (F : NF) : Prop where
  oex : OexC K C
  ini : PySem.W.findIn K (.ref C) "__init__" = some (some (.ref f))
  fun_ : ∃ (od : Option Addr) (sl : Array (Option Value)) (kV doc pm ctv : Value) (an : Option Addr), K.lookup f = some (⟨.type "function", od, .func (PySem.W.fnX F.name F.qual F.params F.body F.scope F.cl .none kV doc pm an (.ref F.c) ctv), sl⟩ : Obj)
  code : ∃ (oc : Value) (od : Option Addr) (vs : Array Value) (sl : Array (Option Value)) (file : Str) (tf : Tok), K.lookup F.c = some (⟨oc, od, .fields vs, sl⟩ : Obj) ∧ vs[2]? = some (.str file tf) ∧ ((P.main.file : Str) == file) = true
  cdq : PySem.W.codeIn K (.ref F.c) F.qual = true
  cell : ∃ (cc : Addr) (oc : Value) (od : Option Addr) (sl : Array (Option Value)), F.cl = [((("__class__" : Str)), cc)] ∧ K.lookup cc = some (⟨oc, od, .cell (some (.ref C)), sl⟩ : Obj)
  along : ∀ cd, PySem.W.clsIn K C = some cd → PySem.W.alongIn K "__init__" ((cd.mro.dropWhile (· != .ref C)).drop 1) = some (some (.builtin "ValueError.__init__"))
  self : PySem.W.mroIn K C (.ref C) = some true
  subV : PySem.W.subIn K (.ref C) (.type "ValueError") = some true
  opq : PySem.W.nsIn K cStatics "thirdparty.any" = some none
  sup : mg "super" = none
section
variable {X : Cx} {pins : List (Addr × Obj)} {σ : St} {H : Hp} {s : Shared} {a C f : Addr} {F : NF}
theorem exo_ne_cls {h : Heap} (hX : X.K.In h) (T : OexC X.K C) {t1 : Addr} {d : Option Addr} (he : h.get? a = some ({ cls := .ref C, dict := d, data := .fields #[.ref t1, .none, .none, .none, .bool false, .none] } : Obj)) : a ≠ C := by
  obtain ⟨nm, q, N, bs, bm, sn, sub, ab, col, dd, k0, k1, k2, k3, k5, hC, hbm⟩ := T.cls
  intro z
  have e := hX _ _ hC
  rw [← z, he] at e
  cases e
/-- super().__init__(TEXT) -/
theorem super_init {body : List Stmt} {p0 p1 p2 p3 p4 p5 : Pos} {txt : Str} {j : Nat} {ar : Arg} {L : Addr} (T : ExK X.prog X.K X.mg C f F) (I : Inv X pins σ H s) (ea : H a = some (exo a C none))
    (henv : X.env = envF F f L) (hself : σ[0]? = some (some (.ref a))) (hN0 : X.N[0]? = some ar.arg)
    (hks : F.scope.names.lookup ("super" : Str) = some .globalImplicit) (hkc : F.scope.names.lookup ("__class__" : Str) = some .free) (hka : F.scope.names.lookup ar.arg = some .local)
    (hp : (F.params.posonlyargs ++ F.params.args).head? = some ar) (htop : (X.prog.main.scope.names.lookup ("super" : Str)).isSome = false)
    (hint : interactive X.env = false) {pl : Sem Bool}
    (hev : eval (.Call (.Attribute (.Call (.Name "super" p0) [] [] p1) "__init__" p2) [.Constant (.str txt) j p3] [] p4) X.env = (do
      let ov ← attributeBase (.Call (.Name "super" p0) [] [] p1) "__init__" X.env (eval (.Call (.Name "super" p0) [] [] p1) X.env)
      standAt p2.atName
      let (fn, first) ← holding [ov] (getMethod ov "__init__" pl)
      callWith p4 fn first (backTo p4 (starEach [.Constant (.str txt) j p3] X.env)) []))
    {Q : Flow → Shared → Prop} {E : Value → Shared → Prop} (hq : ∀ s', Inv X pins σ H s' → Q .next s') :
    PySem.wpAt (model X.prog X.w) X.A (.func body X.env) (exec (.Expr (.Call (.Attribute (.Call (.Name "super" p0) [] [] p1) "__init__" p2) [.Constant (.str txt) j p3] [] p4) p5) X.env) Q E s := by
  refine PySem.ks_wpAt_Expr_any ?_ hint (by rfl)
  refine PySem.ks_wpAt_MethodCall (pl := pl) ?_ hev
  obtain ⟨odf, slf, kV, doc, pm, ctv, an, hf⟩ := T.fun_
  obtain ⟨occ, odc, vsc, slc, file, tf, hcode, hvs, hfile⟩ := T.code
  obtain ⟨cc, ocl, odl, sll, hcl, hcell⟩ := T.cell
  obtain ⟨nm, q, N, bs, bm, sn, sub, ab, col, dd, k0, k1, k2, k3, k5, hC, hbm⟩ := T.oex.cls
  have hcd : PySem.W.clsIn X.K C = some { name := nm, bases := bs, mro := .ref C :: bm, ns := N, qualname := q, hasDict := true, slotNames := sn, subclasses := sub, abstract := ab, collection := col, hasDel := false } := by unfold PySem.W.clsIn; rw [hC] <;> rfl
  have hkS : X.env.kindOf ("super" : Str) = some .globalImplicit := by rw [henv]; exact hks
  have hkC : X.env.kindOf ("__class__" : Str) = some .free := by rw [henv]; exact hkc
  have hkA : X.env.kindOf ar.arg = some .local := by rw [henv]; exact hka
  have hcells : X.env.cells.lookup ("__class__" : Str) = some cc := by
    rw [henv]
    show F.cl.lookup ("__class__" : Str) = some cc
    rw [hcl]
    rfl
  obtain ⟨mb, hb1, hb2⟩ := I.mod.blt
  obtain ⟨m, hns, hl⟩ := id I.loc
  obtain ⟨u, ru, hlook⟩ := hl 0 ar.arg (.ref a) hN0 hself (.inl (by rw [henv]; exact hka))
  obtain rfl : u = Value.ref a := ru
  have hm : m ar.arg = some (.ref a) := by
    rcases hlook with ⟨_, e⟩ | ⟨k, _⟩
    · exact e
    · rw [hkA] at k
      rcases k with k | k <;> cases k
  obtain ⟨t1, hget⟩ := exo_at I.hok ea
  have KI := I.kIn
  have hCg := KI _ _ hC
  have haC : a ≠ C := exo_ne_cls KI T.oex hget
  refine PySem.ks_wpAt_super_base (env := X.env) hkS hkC (by decide) (by rw [henv]) (KI _ _ hf) rfl hp (by rw [henv]) (KI _ _ hcode) rfl hvs hfile htop ?_
  refine PySem.W.ks_loadName_global I.ok.kind hkS (Calls.loadGlobal_builtin (by rw [I.ok.glob]; exact I.mod.glob.keeps I.bk) T.sup (by rw [I.ok.blt]; exact hb1.keeps I.bk) ((hb2 _ (by decide)).trans (by decide +kernel)) ⟨rfl, ?_⟩)
  refine wpAny_loadName_free I.ok.kind hkC hcells ⟨_, KI _ _ hcell, rfl⟩ ?_
  refine wpAny_loadName_local I.ok.kind hkA hns hm ?_
  refine ks_wpAny_isType_cls hCg rfl ⟨rfl, ?_⟩
  obtain ⟨hp', g, d, t, os⟩ := s
  have hIn : PySem.W.InstAt hp' a ({ cls := .ref C, dict := none, data := .fields #[.ref t1, .none, .none, .none, .bool false, .none] } : Obj) C none := ⟨hget, rfl, rfl, trivial⟩
  refine ks_wpAny_call_super hCg rfl hget rfl (fun c e => nomatch e) (PySem.W.looks_mroIn KI T.self) (fun h1 e1 k1' => ?_)
  have I1 := I.kept (h' := h1) (t' := t) k1'
  have K1 := I1.kIn
  have hin : PySem.W.Looks (model X.prog X.w) h1 (isInstance (.ref a) (.type "ValueError")) true := (PySem.W.InstAt.type (od := none) ⟨k1' _ _ hget, rfl, rfl, trivial⟩).andThen (PySem.W.looks_subIn K1 T.subV)
  have hmro : PySem.W.Looks (model X.prog X.w) h1 (mroOf (.ref C)) (.ref C :: bm) := (PySem.W.looks_clsIn K1 hcd).andThen .now
  refine PySem.OwE.sup_method e1 (PySem.W.looks_opaque K1 T.opq) hmro rfl K1 (T.along _ hcd) haC (by decide) hin ?_
  have k2' : ∀ b o, h1.get? b = some o → (h1.push (PySem.OwE.bwV a)).get? b = some o := fun b o e => Heap.get?_push_of_some _ e
  have I2 := I1.kept (h' := h1.push (PySem.OwE.bwV a)) (t' := t + 1) k2'
  have hu2 : (h1.push (PySem.OwE.bwV a)).get? h1.objs.size = some (PySem.OwE.bwV a) := Heap.get?_push_at rfl rfl
  show wpAny _ _ (callWith p4 (.ref h1.objs.size) [] (backTo p4 (starEach [Expr.Constant (.str txt) j p3] X.env)) []) _ _ _
  refine PySem.OwE.bwV_args (x := a) ?_
  have hH0 : H h1.objs.size = none := I1.hok.fresh (Nat.le_refl _)
  have I2p : Inv X ((h1.objs.size, PySem.OwE.bwV a) :: pins) σ H ⟨h1.push (PySem.OwE.bwV a), g, d, t + 1, os⟩ := I2.pins_of fun p hp => by
    rcases List.mem_cons.mp hp with rfl | hp
    · exact ⟨hu2, hH0, Ne.symm (Nat.ne_of_lt I1.lt), I1.nofs (Nat.le_refl _), fun v e => nomatch e⟩
    · exact I2.pin p (List.mem_append_right _ hp)
  refine thn ((pa_cons (X := X) (pe_str (x := txt) (j := j) (pos := p3)) pa_nil).run p4 ((h1.objs.size, PySem.OwE.bwV a) :: pins) _ σ H (fun vs H1 => vs.length = 1 ∧ H1 = H) I2p ⟨rfl, rfl⟩) fun us s1 ⟨vs, H1, I3, r3, hlen, hH⟩ => ?_
  subst hH
  obtain ⟨hu3, _⟩ := I3.pin (h1.objs.size, PySem.OwE.bwV a) (List.mem_append_right _ List.mem_cons_self)
  refine ⟨hu3, ?_⟩
  obtain ⟨t2, hget3⟩ := exo_at I3.hok ea
  have J3 : Inv X pins σ H1 s1 := I3.pins_of fun p hp => I3.pin p (List.mem_append_right _ (List.mem_cons_of_mem _ hp))
  obtain ⟨h3, g3, d3, t3, os3⟩ := s1
  show wpAny _ _ (call (.ref h1.objs.size) us) _ _ _
  refine PySem.OwE.bwV_call (I3.kIn _ _ hC) hget3 hu3 (by rw [← r3.length, hlen, sizeLine_eq]; omega) fun h4 t4 k4 hx4 => ?_
  have J := J3.write (t' := t3) (x := a) (e := a) (o := exo a C none) (by rw [ea]; exact True.intro) (.inl rfl) k4 ⟨_, hx4⟩ (exo_ok hx4)
  have eu : upd H1 a (exo a C none) = H1 := by
    funext b
    by_cases hb : b = a
    · rw [hb, upd_same, ea]
    · rw [upd_ne hb]
  rw [eu] at J
  exact hq _ J
end
end Ow

/-! Ow.4: __init__ of an exception class of the text keeps its promise -/
namespace Ow
open PySem PySem.Spec L2 NdefX
/-- self.f = f for each f -/
inductive IsAsg : List Stmt → List Str → Prop
  | nil : IsAsg [] []
  | cons {f : Str} {fs : List Str} {q0 q1 q2 q3 : Pos} {r : List Stmt} : IsAsg r fs → IsAsg (.Assign [.Attribute (.Name "self" q0) f q1] (.Name f q2) q3 :: r) (f :: fs)
def tFlds (K : PySem.W.Frag) : List (Str × Nat) → TS
  | [] => fun D σ H => D.nx σ H
  | (f, i) :: r => tSeq (tOst K f (tVar 0) (tVar i)) (tFlds K r)
theorem pss_flds {X : Cx} (h0 : X.N[0]? = some ("self" : Str)) (v0 : Vis X.env.scope "self") : ∀ {r : List Stmt} {fs : List Str}, IsAsg r fs → ∀ l : List (Str × Nat), l.map (·.1) = fs → (∀ p ∈ l, X.N[p.2]? = some p.1 ∧ Vis X.env.scope p.1 ∧ (p.1 == ("__debug__" : Str)) = false ∧ (p.1 == ("__classdict__" : Str)) = false) → PSs X r (tFlds X.K l)
  | _, _, .nil, [], _, _ => pss_nil
  | _, _, .nil, _ :: _, e, _ => by cases e
  | _, _, .cons _, [], e, _ => by cases e
  | _, _, .cons (f := f) a, (g, i) :: l, e, h => by
    obtain ⟨e1, e2⟩ := List.cons.inj e
    have e1 : g = f := e1
    subst e1
    obtain ⟨h1, h2, h3, h4⟩ := h (g, i) List.mem_cons_self
    exact pss_cons (ps_ost (pe_var h0 v0) (pe_var h1 h2 h3 h4)) (pss_flds h0 v0 a l e2 fun p hp => h p (List.mem_cons_of_mem _ hp))
/-- further fields -/
theorem flds_more {K : PySem.W.Frag} {C a dx : Addr} (T : OexC K C) {σ : St} (h0 : σ[0]? = some (some (.ref a))) {D : Ends} : ∀ (l : List (Str × Nat)) (ws : List V) (done : List (Str × V)) (H : Hp), l.length = ws.length → (∀ (j : Nat) (p : Str × Nat) (w : V), l[j]? = some p → ws[j]? = some w → σ[p.2]? = some (some w)) →
    (∀ p ∈ l, PySem.W.findIn K (.ref C) p.1 = some none) → done.length + l.length ≤ 900 → H a = some (exo a C (some dx)) → H dx = some (exd dx done) → a ≠ dx → D.nx σ (upd H dx (exd dx (((l.map (·.1)).zip ws).reverse ++ done))) → tFlds K l D σ H
  | [], [], done, H, _, _, _, _, _, hd, _, q => by
    have e : upd H dx (exd dx done) = H := by
      funext b
      by_cases hb : b = dx
      · rw [hb, upd_same, hd]
      · rw [upd_ne hb]
    have q : D.nx σ (upd H dx (exd dx done)) := q
    rw [e] at q
    exact q
  | [], _ :: _, _, _, e, _, _, _, _, _, _, _ => by cases e
  | _ :: _, [], _, _, e, _, _, _, _, _, _, _ => by cases e
  | (f, i) :: l, w :: ws, done, H, e, hs, hn, hl, ha, hd, ne, q => by
    refine ⟨w, hs 0 (f, i) w rfl rfl, .ref a, h0, a, C, rfl, T, hn (f, i) List.mem_cons_self, .inr ⟨dx, done, ha, hd, ?_, ?_⟩⟩
    · simp only [List.length_cons] at hl
      omega
    · refine flds_more T h0 l ws ((f, w) :: done) _ (Nat.succ.inj e) (fun j p v h1 h2 => hs (j + 1) p v h1 h2) (fun p hp => hn p (List.mem_cons_of_mem _ hp)) ?_ ?_ upd_same ne ?_
      · simp only [List.length_cons] at hl ⊢
        omega
      · rw [upd_ne ne]
        exact ha
      · rw [upd_upd]
        have eq : ((((f, i) :: l).map (·.1)).zip (w :: ws)).reverse ++ done = ((l.map (·.1)).zip ws).reverse ++ (f, w) :: done := by
          rw [List.map_cons, List.zip_cons_cons, List.reverse_cons, List.append_assoc]
          rfl
        rw [eq] at q
        exact q
/-- all fields, from none -/
theorem flds_all {K : PySem.W.Frag} {C a : Addr} (T : OexC K C) {σ : St} (h0 : σ[0]? = some (some (.ref a))) {D : Ends} (l : List (Str × Nat)) (ws : List V) (H : Hp) (e : l.length = ws.length) (hs : ∀ (j : Nat) (p : Str × Nat) (w : V), l[j]? = some p → ws[j]? = some w → σ[p.2]? = some (some w))
    (hn : ∀ p ∈ l, PySem.W.findIn K (.ref C) p.1 = some none) (hl : l.length ≤ 800) (ha : H a = some (exo a C none)) (q0 : l = [] → D.nx σ H)
    (q : l ≠ [] → ∀ dx, H dx = none → dx ≠ a → D.nx σ (upd (upd H dx (exd dx ((l.map (·.1)).zip ws).reverse)) a (exo a C (some dx)))) : tFlds K l D σ H := by
  cases l with
  | nil => exact q0 rfl
  | cons p l =>
    obtain ⟨f, i⟩ := p
    cases ws with
    | nil => cases e
    | cons w ws =>
      refine ⟨w, hs 0 (f, i) w rfl rfl, .ref a, h0, a, C, rfl, T, hn (f, i) List.mem_cons_self, .inl ⟨ha, fun dx hdx ne => ?_⟩⟩
      refine flds_more (dx := dx) T h0 l ws [(f, w)] _ (Nat.succ.inj e) (fun j p v h1 h2 => hs (j + 1) p v h1 h2) (fun p hp => hn p (List.mem_cons_of_mem _ hp)) ?_ upd_same ?_ (Ne.symm ne) ?_
      · simp only [List.length_cons, List.length_nil] at hl ⊢
        omega
      · rw [upd_ne ne, upd_same]
      · have z := q (by simp) dx hdx ne
        have e1 : upd (upd (upd H dx (exd dx [(f, w)])) a (exo a C (some dx))) dx (exd dx (((l.map (·.1)).zip ws).reverse ++ [(f, w)])) = upd (upd H dx (exd dx ((((f, i) :: l).map (·.1)).zip (w :: ws)).reverse)) a (exo a C (some dx)) := by
          have e2 : ((((f, i) :: l).map (·.1)).zip (w :: ws)).reverse = ((l.map (·.1)).zip ws).reverse ++ [(f, w)] := by
            rw [List.map_cons, List.zip_cons_cons, List.reverse_cons]
          rw [e2]
          funext b
          by_cases hb : b = a
          · rw [hb, upd_ne (Ne.symm ne), upd_same, upd_same]
          · by_cases hd : b = dx
            · rw [hd, upd_same, upd_ne ne, upd_same]
            · rw [upd_ne hd, upd_ne hb, upd_ne hd, upd_ne hb, upd_ne hd]
        rw [e1]
        exact z
abbrev psOf (fs : List Str) : List Str := ("self" : Str) :: fs
abbrev clsN : List Str := [("__class__" : Str)]
abbrev nsOf (fs : List Str) : List Str := ("self" : Str) :: (fs ++ clsN)
/-- the promise of such an __init__ -/
def spIni (C : Addr) (fs : List Str) : Sp := fun vs H Q _ => ∃ (a : Addr) (ws : List V), vs = .ref a :: ws ∧ ws.length = fs.length ∧ H a = some (exo a C none) ∧ (fs = [] → Q .non H) ∧
  (fs ≠ [] → ∀ dx, H dx = none → dx ≠ a → Q .non (upd (upd H dx (exd dx (fs.zip ws).reverse)) a (exo a C (some dx))))
/-- how the body reads: positions left open -/
structure IniBody (P : Program) (F : NF) (fs : List Str) : Prop where
  sc : NScope (nsOf fs) (psOf fs) clsN F.scope
  sup : F.scope.names.lookup ("super" : Str) = some .globalImplicit
  top : (P.main.scope.names.lookup ("super" : Str)).isSome = false
  par : ∃ ar : Arg, (F.params.posonlyargs ++ F.params.args).head? = some ar ∧ ar.arg = "self"
  dbg : ∀ f ∈ fs, (f == ("__debug__" : Str)) = false ∧ (f == ("__classdict__" : Str)) = false
  int : ∀ f L, interactive (envF F f L) = false
  body : ∃ (p0 p1 p2 p3 p4 p5 : Pos) (txt : Str) (j : Nat) (rest : List Stmt), F.body = .Expr (.Call (.Attribute (.Call (.Name "super" p0) [] [] p1) "__init__" p2) [.Constant (.str txt) j p3] [] p4) p5 :: rest ∧ IsAsg rest fs ∧
    ∀ f L, eval (.Call (.Attribute (.Call (.Name "super" p0) [] [] p1) "__init__" p2) [.Constant (.str txt) j p3] [] p4) (envF F f L) = (do
      let ov ← attributeBase (.Call (.Name "super" p0) [] [] p1) "__init__" (envF F f L) (eval (.Call (.Name "super" p0) [] [] p1) (envF F f L))
      standAt p2.atName
      let (fn, first) ← holding [ov] (getMethod ov "__init__" (plainOf (.Call (.Name "super" p0) [] [] p1) (envF F f L)))
      callWith p4 fn first (backTo p4 (starEach [.Constant (.str txt) j p3] (envF F f L))) [])
theorem ini_ok {P : Program} {w : World} {K : PySem.W.Frag} {mg : Str → Option Value} {base : Heap} {C f : Addr} {F : NF} {fs : List Str} {kV doc pm ctv : Value} {an : Option Addr} (T : ExK P K mg C f F) (B : IniBody P F fs) (hno : ∀ x ∈ fs, PySem.W.findIn K (.ref C) x = some none) (hfs : fs.length ≤ 700)
    (lk : ∃ (od : Option Addr) (sl : Array (Option Value)), K.lookup f = some (⟨.type "function", od, .func (PySem.W.fnX F.name F.qual F.params F.body F.scope F.cl .none kV doc pm an (.ref F.c) ctv), sl⟩ : Obj)) :
    FnOk P w K mg base CX0 1 f (PySem.W.fnX F.name F.qual F.params F.body F.scope F.cl .none kV doc pm an (.ref F.c) ctv) (psOf fs) (spIni C fs) := by
  have len : ∀ vs H Q E, spIni C fs vs H Q E → vs.length = (psOf fs).length := fun vs H Q E h => by
    obtain ⟨a, ws, rfl, hl, _⟩ := h
    rw [List.length_cons, List.length_cons, hl]
  refine ⟨len, fun A outer s H args us vs Q E hr e0 hb r hsp => ?_⟩
  have hl := len _ _ _ _ hsp
  obtain ⟨a, ws, rfl, hw, ha, q0, q1⟩ := hsp
  have bk : ∀ b o, base.get? b = some o → s.heap.get? b = some o := fun b o e => (e0.bs b o e).1
  have KI : K.In s.heap := e0.mod.kin.keeps bk
  have lim : s.heap.NoLimit := e0.mod.nolimit.keeps bk
  obtain ⟨od, sl, lk⟩ := lk
  obtain ⟨cc, ocl, odl, sll, hcl, hcell⟩ := T.cell
  obtain ⟨p0, p1, p2, p3, p4, p5, txt, j, rest, hbody, has, hev⟩ := B.body
  obtain ⟨ar, hpar, har⟩ := B.par
  have S := B.sc
  refine PySem.ks_codeAny_call_defAt hr.depth (KI _ _ lk) rfl lim (PySem.W.codeRec_of KI T.cdq) rfl hb S.nocell (fun ⟨n, v⟩ hy => S.par n (List.of_mem_zip hy).1) (fun h₁ hns kp => ?_) S.co S.gen S.kind
  have hcc : H cc = none ∧ s.heap.get? cc = some (⟨ocl, odl, .cell (some (.ref C)), sll⟩ : Obj) := ⟨(e0.bs cc _ (e0.mod.kin _ _ hcell)).2, KI _ _ hcell⟩
  have CA : CellsAt F.cl clsN [some (.ref C)] s.heap H := by
    rw [hcl]
    refine ⟨rfl, fun y c e => ?_, fun x y c e1 e2 => ?_, fun i y e => ?_⟩
    · have e' := PySem.mem_of_lookup e
      rcases List.mem_singleton.mp e' with z
      obtain ⟨_, rfl⟩ := Prod.mk.inj z
      exact ⟨hcc.1, _, _, hcc.2, rfl⟩
    · obtain ⟨z1, _⟩ := Prod.mk.inj (List.mem_singleton.mp (PySem.mem_of_lookup e1))
      obtain ⟨z2, _⟩ := Prod.mk.inj (List.mem_singleton.mp (PySem.mem_of_lookup e2))
      exact z1.trans z2.symm
    · cases i with
      | succ i => simp at e
      | zero =>
        have e2 : y = ("__class__" : Str) := by simpa using e.symm
        subst e2
        refine ⟨cc, rfl, fun v hv => ?_⟩
        have e3 : v = .ref C := by simpa using hv.symm
        subst e3
        exact ⟨.ref C, rfl, _, hcc.2, rfl⟩
  have I : Inv (ncx CX0 P w K mg base (nsOf fs) F f A outer s H E) [] (startF (nsOf fs) (.ref a :: ws) [some (.ref C)]) H { s with heap := h₁, toks := s.toks + (List.zip (psOf fs) us).length } := inv_startN S hr.hd e0 hl r CA hns kp
  have hX0 : (nsOf fs)[0]? = some ("self" : Str) := rfl
  have key : ∀ s', Inv (ncx CX0 P w K mg base (nsOf fs) F f A outer s H E) [] (startF (nsOf fs) (.ref a :: ws) [some (.ref C)]) H s' →
      wpAny (model P w) (A.deeper (envF F f s.heap.objs.size)) (execs rest (envF F f s.heap.objs.size)) (SP (ncx CX0 P w K mg base (nsOf fs) F f A outer s H E) [] { nx := fun _ H' => Q .non H', rt := Q }) (ncx CX0 P w K mg base (nsOf fs) F f A outer s H E).xe s' := fun s' J => by
    have hidx : ∀ p ∈ (fs.zipIdx 1), (nsOf fs)[p.2]? = some p.1 := fun p hp => by
      obtain ⟨x, i⟩ := p
      obtain ⟨h1, h2, h3⟩ := List.mem_zipIdx hp
      have hi : i - 1 < fs.length := by omega
      show (("self" : Str) :: (fs ++ clsN))[i]? = some x
      obtain ⟨k, rfl⟩ : ∃ k, i = k + 1 := ⟨i - 1, by omega⟩
      rw [List.getElem?_cons_succ, List.getElem?_append_left (by omega), List.getElem?_eq_getElem (by omega)]
      rw [h3]
      rfl
    have hp := pss_flds (X := ncx CX0 P w K mg base (nsOf fs) F f A outer s H E) hX0 (.inl (S.par _ List.mem_cons_self)) has (fs.zipIdx 1) (by simp) (fun p hp => by
      have hm : p.1 ∈ fs := List.fst_mem_of_mem_zipIdx hp
      exact ⟨hidx p hp, .inl (S.par _ (List.mem_cons_of_mem _ hm)), B.dbg _ hm⟩)
    refine hp.run [] s' _ H _ J (flds_all T.oex rfl (fs.zipIdx 1) ws H (by rw [List.length_zipIdx]; exact hw.symm) (fun i p v h1 h2 => ?_) (fun p hp => hno _ (List.fst_mem_of_mem_zipIdx hp)) (by rw [List.length_zipIdx]; omega) ha (fun z => ?_) (fun z dx h1 h2 => ?_))
    · rw [List.getElem?_zipIdx] at h1
      cases e : fs[i]? with
      | none =>
        rw [e] at h1
        cases h1
      | some x =>
        rw [e] at h1
        have e1 : (x, 1 + i) = p := Option.some.inj h1
        subst e1
        show (startF (nsOf fs) (.ref a :: ws) [some (.ref C)])[1 + i]? = some (some v)
        unfold startF
        have hi : i < ws.length := (List.getElem?_eq_some_iff.mp h2).1
        rw [List.getElem?_append_left (by simp; omega), List.getElem?_map, Nat.add_comm, List.getElem?_cons_succ, h2]
        rfl
    · have z2 : fs = [] := by
        cases fs with
        | nil => rfl
        | cons x r => cases z
      exact q0 z2
    · have z2 : fs ≠ [] := fun e => z (by rw [e]; rfl)
      have e : (fs.zipIdx 1).map (·.1) = fs := by simp
      show Q .non _
      rw [e]
      exact q1 z2 dx h1 h2
  have fin : ∀ (fl : Flow) (s' : Shared), SP (ncx CX0 P w K mg base (nsOf fs) F f A outer s H E) [] { nx := fun _ H' => Q .non H', rt := Q } fl s' → CR CX0 outer P w H s Q E (.ok (.ret (match fl with | .ret v => v | _ => .none))) s' := fun fl s' hs => by
    cases fl with
    | ret u =>
      obtain ⟨v, σ', H', J, rv, q⟩ := hs
      exact ⟨v, H', J.os, J.bare, J.base, J.hok, rv, q⟩
    | next =>
      obtain ⟨σ', H', J, q⟩ := hs
      exact ⟨.non, H', J.os, J.bare, J.base, J.hok, rfl, q⟩
    | brk =>
      obtain ⟨_, _, _, q⟩ := hs
      exact False.elim q
    | cont =>
      obtain ⟨_, _, _, q⟩ := hs
      exact False.elim q
  show PySem.wpAt (model P w) (A.deeper (envF F f s.heap.objs.size)) (.func F.body (envF F f s.heap.objs.size)) (execs F.body (envF F f s.heap.objs.size)) _ _ _
  have eb : execs F.body (envF F f s.heap.objs.size) = execs (.Expr (.Call (.Attribute (.Call (.Name "super" p0) [] [] p1) "__init__" p2) [.Constant (.str txt) j p3] [] p4) p5 :: rest) (envF F f s.heap.objs.size) := by rw [hbody]
  rw [eb]
  refine PySem.ks_wpAt_mono (PySem.ks_wpAt_execs_cons (super_init (X := ncx CX0 P w K mg base (nsOf fs) F f A outer s H E) (ar := ar) T I ha rfl rfl (by rw [har]; rfl) B.sup (S.frk _ List.mem_cons_self) (by rw [har]; exact S.par _ List.mem_cons_self) hpar B.top (B.int _ _) (hev _ _) fun s' J => ?_)) (fun fl s' hs => fin fl s' hs) fun e s' hs => hs
  exact PySem.wpAt_of_wpAny (key s' J)
end Ow

/-! Ow.5: exceptions as values: made, their fields read, isinstance -/
namespace Ow
open PySem PySem.Spec L2 NdefX PyProof.Rows
/-- at a stands an exception of the class at C with the fields l -/
def ExcAt (H : Hp) (a C : Addr) (l : List (Str × V)) : Prop := (l = [] ∧ H a = some (exo a C none)) ∨ ∃ d, H a = some (exo a C (some d)) ∧ H d = some (exd d l)
theorem ExcAt.same {H H' : Hp} {a C : Addr} {l : List (Str × V)} (e : ExcAt H a C l) (s : Same H H') : ExcAt H' a C l := by
  rcases e with ⟨e, h⟩ | ⟨d, h1, h2⟩
  · exact .inl ⟨e, s _ _ h⟩
  · exact .inr ⟨d, s _ _ h1, s _ _ h2⟩
/-- what the text says of an exception class -/
structure ExCl (P : Program) (K : PySem.W.Frag) (mg : Str → Option Value) (x : Str) (C f : Addr) (F : NF) (fs : List Str) (fd : FuncData) : Prop where
  k : ExK P K mg C f F
  b : IniBody P F fs
  no : ∀ y ∈ fs, PySem.W.findIn K (.ref C) y = some none
  len : fs.length ≤ 700
  ty : PySem.W.typeIn K (.ref f) = some (.type "function")
  fd_ : ∃ (od : Option Addr) (sl : Array (Option Value)) (kV doc pm ctv : Value) (an : Option Addr), fd = PySem.W.fnX F.name F.qual F.params F.body F.scope F.cl .none kV doc pm an (.ref F.c) ctv ∧ K.lookup f = some (⟨.type "function", od, .func fd, sl⟩ : Obj)
  xf : XfC K C
  mgx : mg x = some (.ref C)
theorem ExCl.ok {P : Program} {w : World} {K : PySem.W.Frag} {mg : Str → Option Value} {base : Heap} {x : Str} {C f : Addr} {F : NF} {fs : List Str} {fd : FuncData} (T : ExCl P K mg x C f F fs fd) : FnOk P w K mg base CX0 1 f fd (psOf fs) (spIni C fs) := by
  obtain ⟨od, sl, kV, doc, pm, ctv, an, rfl, lk⟩ := T.fd_
  exact ini_ok T.k T.b T.no T.len ⟨od, sl, lk⟩
/-- C(.., k = v, ..) as a value -/
def tExc (C : Addr) (fs : List Str) (n m : Nat) (gV : List V → List V → List V) (t tk : TA) : TE := fun σ H Q => t σ H fun vs H1 => tk σ H1 fun zs H2 => vs.length = n ∧ zs.length = m ∧ (gV vs zs).length = fs.length ∧
  ∀ a H3, H2 a = none → Same H2 H3 → ExcAt H3 a C (fs.zip (gV vs zs)).reverse → Q (.ref a) H3
/-- how arguments come to the fields -/
structure EBn (K : PySem.W.Frag) (fd : FuncData) (fs : List Str) (n : Nat) (ks : List Str) (g : List Value → List Value → List Value) (gV : List V → List V → List V) : Prop where
  to : ∀ (s : Shared) (u : Value) (us ws : List Value), us.length = n → ws.length = ks.length → BindsTo s fd ⟨u :: us, ks.zip ws⟩ ((psOf fs).zip (u :: g us ws))
  rel : ∀ {vs : List V} {us : List Value} {zs : List V} {ws : List Value}, Vals vs us → Vals zs ws → Vals (gV vs zs) (g us ws)
section
variable {X : Cx} {n : Nat} {f C : Addr} {F : NF} {fd : FuncData} {fs ks : List Str} {x : Str} {p pos : Pos} {e : Expr} {es : List Expr} {kws : List Keyword} {t tk : TA} {g : List Value → List Value → List Value} {gV : List V → List V → List V}
theorem run_exc {pins : List (Addr × Obj)} {σ : L2.St} {H : Hp} {s : Shared} {Q : VK} {us ws : List Value} {vs zs : List V} (T : ExCl X.prog X.K X.mg x C f F fs fd) (hr : Room 2 X.A) (hb : EBn X.K fd fs n ks g gV) (I : Inv X pins σ H s) (r : Vals vs us) (rz : Vals zs ws) (l1 : vs.length = n) (l2 : zs.length = ks.length)
    (hn : n ≤ 1000) (l3 : (gV vs zs).length = fs.length) (h : ∀ a H3, H a = none → Same H H3 → ExcAt H3 a C (fs.zip (gV vs zs)).reverse → Q (.ref a) H3) : wpAny (model X.prog X.w) X.A (call (.ref C) us (ks.zip ws)) (EP X pins σ Q) X.xe s := by
  obtain ⟨nm, q, N, bs, bm, sn, sub, ab, col, dd, k0, k1, k2, k3, k5, hC, hbm⟩ := T.k.oex.cls
  obtain ⟨hp, gg, dr, tk, os⟩ := s
  have hsz : hp.objs.size ≤ hp.objs.size + 1 := Nat.le_succ _
  have hnn : H (hp.objs.size + 1) = none := I.hok.fresh hsz
  have kk : ∀ b o, hp.get? b = some o → ((hp.push (PySem.W.kdv_tup us)).push (PySem.HandSPX.excO C hp.objs.size)).get? b = some o := fun b o e => Heap.get?_push_of_some _ (Heap.get?_push_of_some _ e)
  have hget : ((hp.push (PySem.W.kdv_tup us)).push (PySem.HandSPX.excO C hp.objs.size)).get? (hp.objs.size + 1) = some (PySem.HandSPX.excO C hp.objs.size) := by heap_get
  have I2 : Inv X pins σ (upd H (hp.objs.size + 1) (exo (hp.objs.size + 1) C none)) ⟨(hp.push (PySem.W.kdv_tup us)).push (PySem.HandSPX.excO C hp.objs.size), gg, dr, tk, os⟩ :=
    I.laid (t' := tk) (a := hp.objs.size + 1) (o := exo (hp.objs.size + 1) C none) kk hsz (exo_ok hget)
  have hus : us.length ≤ sizeLine := by
    rw [← Paired.length r, sizeLine_eq]
    omega
  have S0 : Same H (upd H (hp.objs.size + 1) (exo (hp.objs.size + 1) C none)) := fun b o e => by
    rw [upd_ne (ne_of_none e hnn)]
    exact e
  have hq : spIni C fs (V.ref (hp.objs.size + 1) :: gV vs zs) (upd H (hp.objs.size + 1) (exo (hp.objs.size + 1) C none)) (fun v H3 => v = .non ∧ Q (.ref (hp.objs.size + 1)) H3) (fun _ _ _ => False) := by
    refine ⟨hp.objs.size + 1, gV vs zs, rfl, l3, upd_same, fun z => ⟨rfl, ?_⟩, fun z dx h1 h2 => ⟨rfl, ?_⟩⟩
    · refine h _ _ hnn S0 (.inl ⟨?_, upd_same⟩)
      rw [z]
      rfl
    · refine h _ _ hnn (fun b o e => ?_) (.inr ⟨dx, upd_same, ?_⟩)
      · rw [upd_ne (ne_of_none e hnn), upd_ne (ne_of_none (S0 _ _ e) h1)]
        exact S0 _ _ e
      · rw [upd_ne h2, upd_same]
  have r2 : Vals (V.ref (hp.objs.size + 1) :: gV vs zs) (Value.ref (hp.objs.size + 1) :: g us ws) := .cons rfl (hb.rel r rz)
  refine wpAny_call (PySem.OwE.callK PySem.F.excBase_ValueError (fun Y => PySem.HandSPX.refsVE_contains Y bm hbm) (I.kIn _ _ hC) (PySem.W.looks_findIn I.kIn T.k.ini) (fun self => PySem.W.bind_fn I.kIn self T.ty) hus
    (codeAny_mono ((T.ok (w := X.w) (base := X.base)).run _ X.stack _ _ ⟨Value.ref (hp.objs.size + 1) :: us, ks.zip ws⟩ (Value.ref (hp.objs.size + 1) :: g us ws) _ _ (fun _ _ _ => False) ((hr.make C us (ks.zip ws)).mono (Nat.le_refl _)) (I2.env0.make C us (ks.zip ws)) (hb.to _ _ us ws (by rw [← Paired.length r]; exact l1) (by rw [← Paired.length rz]; exact l2)) r2 hq) fun r s' hq' => ?_))
  cases r with
  | error er => exact False.elim hq'
  | ok fl =>
    cases fl with
    | ret u =>
      obtain ⟨v, H', I3, rv, ev, q3⟩ := I2.after hq'
      subst ev
      exact ⟨rv, ⟨V.ref (hp.objs.size + 1), H', I3, rfl, q3⟩⟩
    | next => exact False.elim hq'
    | brk => exact False.elim hq'
    | cont => exact False.elim hq'
/-- C(k = v, ..) -/
theorem pe_exc0 (T : ExCl X.prog X.K X.mg x C f F fs fd) (hr : Room 2 X.A) (hg : Gl X x) (hb : EBn X.K fd fs 0 ks g gV) (hkw : PK X kws tk)
    (hall : (backToKw pos (keywordEach kws X.env)).all (·.1.isSome) = true := by rfl) (hks : (backToKw pos (keywordEach kws X.env)).filterMap (·.1) = ks := by rfl) (hdb : (x == ("__debug__" : Str)) = false := by decide)
    (hpl : ((backTo pos (starEach [] X.env)).any (·.1) || (backToKw pos (keywordEach kws X.env)).any (·.1.isNone)) = false := by rfl) :
    PE X (.Call (.Name x p) [] kws pos) (tExc C fs 0 ks.length gV tNil tk) := by
  refine ⟨fun pins s σ H Q I h => ?_⟩
  refine wpAny_Call_Name_kw (ld_glob I hg T.mgx ?_ hdb)
  refine PySem.W.callWith_KW0 (h₀ := X.base) I.ok.mod.kin T.k.oex.kC hall ?_ hpl
  refine thn (hkw.run pos pins s σ H _ I h) fun ws s2 ⟨zs, H2, I2, rz, l1, l2, l3, q2⟩ => ⟨I2.kIn, ?_⟩
  rw [hks]
  exact run_exc (us := []) (vs := []) T hr hb I2 .nil rz rfl l2 (by decide) l3 q2
/-- C(e, .., k = v, ..) -/
theorem pe_excN (T : ExCl X.prog X.K X.mg x C f F fs fd) (hr : Room 2 X.A) (hg : Gl X x) (hn : n ≤ 1000) (hb : EBn X.K fd fs n ks g gV) (ha : PA X (e :: es) t) (hkw : PK X kws tk)
    (hall : (backToKw pos (keywordEach kws X.env)).all (·.1.isSome) = true := by rfl) (hks : (backToKw pos (keywordEach kws X.env)).filterMap (·.1) = ks := by rfl) (hdb : (x == ("__debug__" : Str)) = false := by decide)
    (he : starEach (e :: es) X.env = (false, eval e X.env) :: starEach es X.env := by rfl) (hpl : ((backTo pos (starEach (e :: es) X.env)).any (·.1) || (backToKw pos (keywordEach kws X.env)).any (·.1.isNone)) = false := by rfl) :
    PE X (.Call (.Name x p) (e :: es) kws pos) (tExc C fs n ks.length gV t tk) := by
  refine ⟨fun pins s σ H Q I h => ?_⟩
  refine wpAny_Call_Name_kw (ld_glob I hg T.mgx ?_ hdb)
  refine PySem.W.callWith_KW (h₀ := X.base) I.ok.mod.kin T.k.oex.kC hall (thn (ha.run pos pins s σ H _ I h) fun us s1 ⟨vs, H1, I1, r, q⟩ => ?_) hpl he
  refine thn (hkw.run pos pins s1 σ H1 _ I1 q) fun ws s2 ⟨zs, H2, I2, rz, l1, l2, l3, q2⟩ => ⟨I2.kIn, ?_⟩
  rw [hks]
  exact run_exc T hr hb I2 r rz l1 l2 hn l3 q2
/-- e.f -/
def tEfl (K : PySem.W.Frag) (y : Str) (te : TE) : TE := fun σ H Q => te σ H fun x H1 => ∃ (a C : Addr) (l : List (Str × V)) (v : V), x = .ref a ∧ ExcAt H1 a C l ∧ XfC K C ∧ PySem.W.findIn K (.ref C) y = some none ∧ l.lookup y = some v ∧ Q v H1
theorem pe_efl {K : PySem.W.Frag} {e : Expr} {te : TE} {y : Str} (he : PE X e te) (hK : X.K = K := by rfl) (hb : attributeBase e y X.env (eval e X.env) = eval e X.env := by rfl) : PE X (.Attribute e y pos) (tEfl K y te) := by
  subst hK
  refine ⟨fun pins s σ H Q I h => ?_⟩
  refine attr_of hb (thn (he.run pins s σ H _ I h) fun u s1 hh => ?_)
  obtain ⟨x, H1, I1, rx, a, C, l, v, rfl, ea, T, hno, hl, q⟩ := hh
  obtain rfl : u = Value.ref a := rx
  rcases ea with ⟨rfl, _⟩ | ⟨d, ea, ed⟩
  · cases hl
  obtain ⟨t1, ha⟩ := exo_at I1.hok ea
  obtain ⟨mA, hns, hr⟩ := exd_at I1.hok ed
  obtain ⟨od, ho, hlk⟩ := lookIn_ns hns
  obtain ⟨u, hu, ru⟩ := RelO.some_of (v := v) (o := mA y) (by rw [← hl]; exact hr y)
  have J : PySem.W.InstAt s1.heap a _ C (some od) := ⟨ha, rfl, rfl, ho⟩
  exact HandSPX.exc_get I1.kIn J T.ga T.gg T.exC (PySem.W.findObj_own T.hdC hno rfl (by rw [hlk, hu])) (handed_of ru) ⟨v, H1, I1.tok _, ru, q⟩
end
/-- what the class must say for isinstance -/
structure EIs (K : PySem.W.Frag) (C : Addr) : Prop where
  cl : (PySem.W.clsIn K C).isSome = true
  ga : PySem.W.findIn K (.ref C) "__getattribute__" = some (some (.builtin "BaseException.__getattribute__"))
  gg : PySem.W.findIn K (.ref C) "__getattr__" = some none
  sb : PySem.W.subIn K (.ref C) (.type "BaseException") = some true
  kc : PySem.W.findIn K (.ref C) "__class__" = some (some (.builtin "object.__class__"))
  sg : PySem.W.specialIn K (.builtin "object.__class__") "__get__" = some (some (.builtin "getset_descriptor.__get__"))
  tk : PySem.W.takesIn K (.builtin "object.__class__") = some true
  mo : PySem.W.mroIn K C (.type "object") = some true
def rEis (K : PySem.W.Frag) : List V → Hp → VK → Prop := fun xs H Q => ∃ (a C : Addr) (l : List (Str × V)) (c : V) (cv : Value) (b : Bool), xs = [.ref a, c] ∧ ExcAt H a C l ∧ EIs K C ∧ (∀ u, RelV c u → u = cv) ∧ PySem.W.kitOne K (.ref C) cv = some b ∧ Q (.bl b) H
theorem call_eis {X : Cx} : CallR X (.builtin "isinstance") (rEis X.K) := by
  intro pins s σ H xs us Q I r h
  obtain ⟨a, C, l, c, cv, b, rfl, ea, T, hcv, e, q⟩ := h
  cases r with
  | cons rx rr =>
    cases rr with
    | cons rt rr =>
      cases rr
      cases rx
      have ec := hcv _ rt
      subst ec
      rcases ea with ⟨_, ea⟩ | ⟨d, ea, ed⟩
      · obtain ⟨t1, ha⟩ := exo_at I.hok ea
        exact PySem.W.kia_one (PySem.W.kitx_exc (od := none) T.cl T.ga T.gg T.sb T.kc T.sg T.tk T.mo) I.kIn ⟨ha, rfl, rfl, trivial⟩ e (fun z => nomatch z) fun tk => ⟨.bl b, H, I.kept (t' := tk) fun _ _ z => z, rfl, q⟩
      · obtain ⟨t1, ha⟩ := exo_at I.hok ea
        obtain ⟨mA, hns, hr⟩ := exd_at I.hok ed
        obtain ⟨od, ho, _⟩ := lookIn_ns hns
        exact PySem.W.kia_one (PySem.W.kitx_exc (od := some od) T.cl T.ga T.gg T.sb T.kc T.sg T.tk T.mo) I.kIn ⟨ha, rfl, rfl, ho⟩ e (fun z => nomatch z) fun tk => ⟨.bl b, H, I.kept (t' := tk) fun _ _ z => z, rfl, q⟩
end Ow

/-! Ow.L1: defs by name, powers of great ints, repr, the end of a law whose own body calls repr, a Hook with one more Bool -/
namespace Ow
open PySem PySem.Spec PyProof.Rows L2
/-! ### defs by name -/
abbrev FnP (K : PySem.W.Frag) (x : Str) (st : Stmt) (f : Addr) (fd : FuncData) : Prop := FunD K x x (defArgs st) (defBody st) (defScope st) [] [] f fd
/-- the module's name x stands for the def st -/
def TopD (K : PySem.W.Frag) (mg : Str → Option Value) (x : Str) (st : Stmt) : Prop := ∃ f fd, FnP K x st f fd ∧ mg x = some (.ref f)
/-- the module's name x stands for a def that keeps the promise sp -/
def FnAt (P : Program) (w : World) (K : PySem.W.Frag) (mg : Str → Option Value) (base : Heap) (x : Str) (ps : List Str) (k : Nat) (sp : Sp) : Prop :=
  ∃ f fd, mg x = some (.ref f) ∧ PySem.W.keepIn K (.ref f) = true ∧ Binds K fd ps [] ∧ FnOk P w K mg base CX0 k f fd ps sp
section
variable {P : Program} {w : World} {K : PySem.W.Frag} {mg : Str → Option Value} {base : Heap}
theorem fn_at {x : Str} {st : Stmt} {N ps : List Str} {k : Nat} {sp : Sp} (T : TopD K mg x st) (S : FnScope N ps (defScope st))
    (hb : ∀ (kV doc pm : Value) (an : Option Addr) (cdv ct : Value) (us : List Value), us.length = ps.length → bindArgs (PySem.W.fnOf x x (defArgs st) (defBody st) (defScope st) .none kV doc pm an cdv ct) ⟨us, []⟩ = pure (ps.zip us))
    (len : ∀ vs H Q E, sp vs H Q E → vs.length = ps.length)
    (hbody : ∀ (f : Addr) (cdv : Value) (A : Around) (outer : List Env) (s : Shared) (H : Hp) (vs : List V) (Q : VK) (E : XK), Room k (A.deeper (envOfC x (defScope st) s.heap.objs.size f cdv)) → sp vs H Q E →
      ∃ t, PSs (cxOf CX0 P w K mg base N x (defScope st) f cdv A outer s H E).nox (defBody st) t ∧ t { nx := fun _ H' => Q .non H', rt := Q } (start N vs) H) : FnAt P w K mg base x ps (k + 1) sp := by
  obtain ⟨f, fd, F, hm⟩ := T
  refine ⟨f, fd, hm, F.kp, F.bindsN hb, F.ok S len fun cdv A outer s H vs Q E hr h => ?_⟩
  obtain ⟨t, h1, h2⟩ := hbody f cdv A outer s H vs Q E hr h
  exact ⟨t, h1.nox, h2⟩
theorem FnAt.mono {x : Str} {ps : List Str} {j k : Nat} {sp : Sp} (F : FnAt P w K mg base x ps j sp) (h : j ≤ k) : FnAt P w K mg base x ps k sp := by
  obtain ⟨f, fd, h1, h2, h3, h4⟩ := F
  exact ⟨f, fd, h1, h2, h3, h4.mono h⟩
end
section
variable {X : Cx} {x : Str} {p pos : Pos} {e : Expr} {es : List Expr} {t : TA} {ps : List Str} {k : Nat} {sp : Sp}
theorem pe_fn (F : FnAt X.prog X.w X.K X.mg X.base x ps k sp) (hr : Room k X.A) (hg : Gl X x) (ha : PA X (e :: es) t) (hdb : (x == ("__debug__" : Str)) = false := by decide) (he : starEach (e :: es) X.env = (false, eval e X.env) :: starEach es X.env := by rfl)
    (hpl : (backTo pos (starEach es X.env)).any (·.1) = false := by rfl) : PE X (.Call (.Name x p) (e :: es) [] pos) (tCall sp [] E0 t) := by
  obtain ⟨f, fd, h1, h2, h3, h4⟩ := F
  exact pe_call h4 hr hg h1 h2 h3 .nil pass0 ha hdb he hpl
end
/-! ### powers -/
def CPowW (i j : Int) : Prop := 0 ≤ j ∧ (Builtin.Int.intBits i : Int) * j ≤ 2 ^ 27
theorem op_powW {X : Cx} : OpR X (binaryOp .Pow) (rI CPowW fun i j => .int (i ^ j.toNat)) := opI fun _ _ _ _ _ _ _ hc q => PyProof.Rows.pow_int hc.1 hc.2 q
theorem intBits_lt {i : Int} {n : Nat} (h : i.natAbs < 2 ^ n) (h0 : 0 < n) : Builtin.Int.intBits i ≤ n := by
  have e := PySem.Flt.log2_lt_of h0 h
  unfold Builtin.Int.intBits
  split <;> omega
theorem powW {i j : Int} {n : Nat} (h : i.natAbs < 2 ^ n) (h0 : 0 < n) (hj : 0 ≤ j) (hn : (n : Int) * j ≤ 2 ^ 27) : CPowW i j := by
  refine ⟨hj, Int.le_trans (Int.mul_le_mul_of_nonneg_right ?_ hj) hn⟩
  exact Int.ofNat_le.mpr (intBits_lt h h0)
/-! ### repr -/
def rRep (K : PySem.W.Frag) : List V → Hp → VK → Prop := fun xs H Q => ∃ (a : Addr) (d : PyData), xs = [.ref a] ∧ Dp K H (.ref a) d ∧ d.showable = true ∧ d.hasDict = false ∧ d.depth ≤ 64 ∧ d.shown.length ≤ sizeLine ∧ Q (.str d.shown) H
theorem call_rep {X : Cx} (hg : X.A.guards = some []) (hu : X.A.units + 65 < cLine) : CallR X (.builtin "repr") (rRep X.K) := by
  intro pins s σ H xs us Q I r h
  obtain ⟨a, d, rfl, hd, h1, h2, h3, h4, q⟩ := h
  cases r with
  | cons rx rr =>
    cases rr
    cases rx
    obtain ⟨as, r1⟩ := Dp.reads I d (.ref a) (.ref a) hd rfl
    exact repr_of_reads' r1 h1 (PyData.noDict_hsm h2) hg (by omega) (fun _ _ e => e) (fun h' u tk hk => ⟨.str d.shown, H, I.kept (t' := tk) hk, ⟨u, rfl⟩, q⟩) h4
/-! ### a def run where nothing is being shown -/
section
variable {P : Program} {w : World} {K : PySem.W.Frag} {mg : Str → Option Value} {base : Heap}
def FnG (P : Program) (w : World) (K : PySem.W.Frag) (mg : Str → Option Value) (base : Heap) (k : Nat) (f : Addr) (fd : FuncData) (ps : List Str) (sp : Sp) : Prop :=
  ∀ (A : Around) (outer : List Env) (s : Shared) (H : Hp) (args : Args) (us : List Value) (vs : List V) (Q : VK), A.guards = some [] → Room k A → Env0 P w K mg base A outer s H → BindsTo s fd args (ps.zip us) → Vals vs us → sp vs H Q E0 →
    codeAny (model P w) A (.call (.ref f) args) (CR CX0 outer P w H s Q E0) s
theorem fnG_of {x : Str} {st : Stmt} {f : Addr} {fd : FuncData} {N ps : List Str} {k : Nat} {sp : Sp} (F : FnP K x st f fd) (S : FnScope N ps (defScope st)) (len : ∀ vs H Q E, sp vs H Q E → vs.length = ps.length)
    (hbody : ∀ (cdv : Value) (A : Around) (outer : List Env) (s : Shared) (H : Hp) (vs : List V) (Q : VK), (A.deeper (envOfC x (defScope st) s.heap.objs.size f cdv)).guards = some [] → Room k (A.deeper (envOfC x (defScope st) s.heap.objs.size f cdv)) → sp vs H Q E0 →
      ∃ t, PSs (cxOf CX0 P w K mg base N x (defScope st) f cdv A outer s H E0).nox (defBody st) t ∧ t { nx := fun _ H' => Q .non H', rt := Q } (start N vs) H) : FnG P w K mg base (k + 1) f fd ps sp := by
  intro A outer s H args us vs Q hg hr e0 hb r hsp
  let sp' : Sp := fun vs' H' Q' E' => vs' = vs ∧ H' = H ∧ sp vs H Q' E0
  obtain ⟨oc, od, dV, kV, doc, pm, an, cdv, ct, osl, rfl, lk, hcd, _, _⟩ := F.ex
  have KX : K.In s.heap := e0.mod.kin.keeps fun b o e => (e0.bs b o e).1
  have lim : s.heap.NoLimit := e0.mod.nolimit.keeps fun b o e => (e0.bs b o e).1
  have hl := len _ _ _ _ hsp
  have hkind : ∀ y ∈ ps.zip us, (defScope st).names.lookup y.1 = some .local ∨ ((defScope st).names.lookup y.1 = some .cell ∧ ((cellsFrom (s.heap.objs.size + 1) (defScope st).names []).lookup y.1).isSome = true) := fun ⟨n, v⟩ hy => by
    rcases S.par n (List.of_mem_zip hy).1 with q | q
    · exact .inl q
    · exact .inr ⟨q, PySem.W.cellsFrom_some _ _ _ (.inl q)⟩
  refine codeAny_call_function hr.depth (KX _ _ lk) rfl S.co S.gen rfl (PySem.W.codeRec_of KX hcd) (hb _ _ _ _ ?_)
  refine wpAny_newFunctionEnv_cells S.kind hkind fun env he s1 z => ?_
  subst he
  refine ⟨lim.keeps z.toInCall.keep, codeAny_func ?_⟩
  obtain ⟨t, ht, hq⟩ := hbody cdv A outer s H vs Q hg (hr.deeper _) hsp
  have I : Inv (cxOf CX0 P w K mg base N x (defScope st) f cdv A outer s H E0) [] (start N vs) H s1 := inv_start S hr.hd e0 hl r z
  refine wpAny_mono (ht.nox.run [] s1 (start N vs) H _ I hq) (fun fl s' hs => ?_) fun e s' hs => hs
  cases fl with
  | ret u =>
    obtain ⟨v, σ', H', J, rv, q⟩ := hs
    exact ⟨v, H', J.os, J.bare, J.base, J.hok, rv, q⟩
  | next =>
    obtain ⟨σ', H', J, q⟩ := hs
    exact ⟨.non, H', J.os, J.bare, J.base, J.hok, rfl, q⟩
  | brk =>
    obtain ⟨_, _, _, q⟩ := hs
    exact False.elim q
  | cont =>
    obtain ⟨_, _, _, q⟩ := hs
    exact False.elim q
end
end Ow
/-! ### readings, one step -/
namespace Ow
open PySem PySem.Spec L2
section
variable {t ta tb : TE} {g : TG} {u : TS} {D : Ends} {σ : L2.St} {H : Hp} {Q : VK} {r : R2} {i : Nat} {v : V}
theorem as_ (h : t σ H fun v H1 => g v σ H1 (u D)) : tSeq (tAsg t g) u D σ H := h
theorem as1_ (h : t σ H fun v H1 => g v σ H1 D.nx) : tAsg t g D σ H := h
theorem ret_ (h : t σ H D.rt) : tRet t D σ H := h
theorem op_ (h : ta σ H fun x H1 => tb σ H1 fun y H2 => r x y H2 Q) : tOp r ta tb σ H Q := h
theorem var_ (e : σ[i]? = some (some v)) (h : Q v H) : tVar i σ H Q := ⟨v, e, h⟩
end
end Ow
namespace Ow
open PySem PySem.Spec L2
theorem lc_over {K : PySem.W.Frag} {L : Addr} {g : TG} {tt : TT} {te : TE} {vs : List Nat} {σ : L2.St} {H : Hp} {Q : VK} {i : Nat} (e : σ[i]? = some (some (.ref L))) (hx : ∃ xs, SqL K H L xs) (h : tLc (fun _ H1 R => R (Itl K L) H1) g tt te vs σ H Q) : tLc (iList K (tVar i)) g tt te vs σ H Q := ⟨_, e, L, rfl, hx, h⟩
theorem pg_tupK {X : Cx} {K : PySem.W.Frag} {es : List Expr} {k : Nat} {t : TGs} {n : Nat} {pos : Pos} (hc : X.calm = true) (h : PGs X es t) (hK : X.K = K := by rfl)
    (hn : (assignEach es X.env).length = n := by rfl) (hst : (assignEach es X.env).findIdx? (·.1) = none := by rfl) : PG X (.Tuple es k pos) (gTup K n t) := by
  subst hK
  exact pg_tup hc h hn hst
end Ow
namespace Ow
open PySem PySem.Spec L2
theorem yes_ {σ : L2.St} {H : Hp} {A B : Hp → Prop} (h : A H) : tYes σ H (fun b H3 => if b = true then A H3 else B H3) := by
  show if true = true then A H else B H
  rw [if_pos rfl]
  exact h
end Ow

/-! Ow.L2: the end of a law; the Hook -/
namespace Ow
open PySem PySem.Spec PyProof.Rows L2
theorem law_end {P : Program} {w : World} {K : PySem.W.Frag} {mg mb : Str → Option Value} {k : Nat} {fa a : Addr} {fd : FuncData} {x : Str} {sp : Sp} {s1 : Shared} {vs : List Value} {ns : List Int}
    (KX : K.In s1.heap) (hns : s1.heap.Ns mainGlobals mg) (hb : s1.heap.Ns builtinsNs mb) (hbb : ∀ x : Str, x ≠ "__name__" → mb x = bootBuiltins x) (hlim : s1.heap.NoLimit) (hg : s1.gens = #[])
    (ha : s1.heap.get? a = some { cls := .type "list", data := .seq vs.toArray }) (hi : IntsAre vs ns) (hl : ns.length ≤ sizeLine) (hr : Room k callerA)
    (F : ∀ base : Heap, K.In base → base.Ns mainGlobals mg → FnG P w K mg base k fa fd [x] sp) (hbind : ∀ (s : Shared) (u : Value), BindsTo s fd ⟨[u], []⟩ [(x, u)])
    (hsp : ∀ H : Hp, Only H → SqL K H a (ns.map V.int) → sp [.ref a] H (fun v _ => v = .bl true) E0) :
    codeAny (model P w) callerA (.call (.ref fa) ⟨[.ref a], []⟩) (fun r s' => r = .ok (.ret (.bool true)) ∧ OldK s1.heap s'.heap ∧ s'.os = s1.os ∧ AllBare s'.gens) s1 := by
  have rv := vals_ints hi
  have lenV := hi.length
  have core : ∀ H : Hp, Only H → SqL K H a (ns.map V.int) → HOk P w H s1.heap → (∀ b, H b ≠ none → b = a) → (H a ≠ none → K.lookup a = none) →
      codeAny (model P w) callerA (.call (.ref fa) ⟨[.ref a], []⟩) (fun r s' => r = .ok (.ret (.bool true)) ∧ OldK s1.heap s'.heap ∧ s'.os = s1.os ∧ AllBare s'.gens) s1 := by
    intro H hO hS hok hA hK
    have to_base : ∀ {b : Addr} {o : Obj}, s1.heap.get? b = some o → H b = none → (hidT s1.heap H).get? b = some o := fun e n => hidT_get e n
    have only_a : ∀ {b : Addr} {u : HO}, H b = some u → b = a := fun {b u} q => hA b (by rw [q]; simp)
    have no_dict : ∀ {b : Addr} {o : Obj} {es : Array DictEntry} {ep : Nat}, s1.heap.get? b = some o → o.data = .dict es ep → H b = none := fun {b o es ep} e d => by
      cases q : H b with
      | none => rfl
      | some u =>
        rw [only_a q, ha] at e
        cases e
        cases (show Data.seq vs.toArray _ = Data.dict es ep from d)
    have ns_base : ∀ {b : Addr} {m : Str → Option Value}, s1.heap.Ns b m → (hidT s1.heap H).Ns b m := fun {b m} ⟨o, es, ep, e, d, r⟩ => ⟨o, es, ep, to_base e (no_dict e d), d, r⟩
    have k_base : K.In (hidT s1.heap H) := fun b o e => to_base (KX b o e) (by
      cases q : H b with
      | none => rfl
      | some u =>
        have eb := only_a q
        subst eb
        rw [hK (by rw [q]; simp)] at e
        cases e)
    have hM : Mod K mg (hidT s1.heap H) := ⟨k_base, ns_base hns, ⟨mb, ns_base hb, hbb⟩, let ⟨mc, h1, h2⟩ := hlim; ⟨mc, ns_base h1, h2⟩⟩
    have e0 : Env0 P w K mg (hidT s1.heap H) callerA [] s1 H := ⟨rfl, hM, fun b o e => of_hidT e, Nat.le_of_eq (hidT_size _ _), trivial, fun b hb => absurd (show b ∈ ([] : List Addr) from hb) (by simp), hok, .of_eq hg⟩
    refine codeAny_mono (F _ k_base (ns_base hns) callerA [] s1 H ⟨[.ref a], []⟩ [.ref a] [.ref a] _ rfl hr e0 (hbind s1 (.ref a)) (.cons rfl .nil) (hsp H hO hS)) fun r s' h => ?_
    cases r with
    | error e => exact False.elim h
    | ok fl =>
      cases fl with
      | next => exact False.elim h
      | brk => exact False.elim h
      | cont => exact False.elim h
      | ret u =>
        obtain ⟨v, H', os, bare, un, hok', r', q⟩ := h
        have q' : v = .bl true := q
        subst q'
        obtain rfl : u = Value.bool true := r'
        refine ⟨rfl, OldK.of_keep fun b o e => ?_, os, bare⟩
        cases q : H b with
        | none => exact un.keep b o e q (fun z => absurd (show b ∈ ([] : List Addr) from z) (by simp)) (by simp)
        | some u =>
          rcases hO b with z | ⟨ob, xs, z⟩
          · rw [q] at z
            cases z
          · obtain ⟨e1, _⟩ := hok b _ z
            obtain ⟨e2, _⟩ := hok' b _ (un.frzs b ob _ z)
            rw [e] at e1
            cases e1
            exact e2
  cases hk : K.lookup a with
  | some o =>
    have e := KX a o hk
    rw [ha] at e
    cases e
    exact core (fun _ => none) (fun _ => .inl rfl) (.inr ⟨_, vs.toArray, _, hk, rfl, rfl, rfl, by rw [List.size_toArray, lenV]; exact hl, by simpa using rv⟩) (fun b u z => nomatch (show (none : Option HO) = some u from z)) (fun b z => absurd rfl z) fun z => absurd rfl z
  | none =>
    have h1 : ∀ b, b = a → (fun b => if b = a then some (HO.frz { cls := .type "list", data := .seq vs.toArray } (.lst (ns.map V.int))) else none) b = some (HO.frz { cls := .type "list", data := .seq vs.toArray } (.lst (ns.map V.int))) := fun b hb => if_pos hb
    have h2 : ∀ b, ¬ b = a → (fun b => if b = a then some (HO.frz { cls := .type "list", data := .seq vs.toArray } (.lst (ns.map V.int))) else none) b = none := fun b hb => if_neg hb
    refine core (fun b => if b = a then some (HO.frz { cls := .type "list", data := .seq vs.toArray } (.lst (ns.map V.int))) else none) (fun b => ?_) (.inl (.inr ⟨_, h1 a rfl⟩)) (fun b u z => ?_) (fun b z => ?_) fun _ => hk
    · by_cases hb : b = a
      · exact .inr ⟨_, _, h1 b hb⟩
      · exact .inl (h2 b hb)
    · by_cases hb : b = a
      · have z' := (h1 b hb).symm.trans z
        cases z'
        subst hb
        exact ⟨ha, by rw [List.length_map]; exact hl, vs, _, rv, ha⟩
      · have z' := (h2 b hb).symm.trans z
        cases z'
    · by_cases hb : b = a
      · exact hb
      · exact absurd (h2 b hb) z
theorem walk_end {l : PySem.W.OpenLaw} {n k : Nat} {q : Program} {loose : List Str} {XP : (Str → Option Value) → Heap → Prop} {YP : World → Heap → Prop} {d : DefRec} {x : Str}
    (hn : l.most = some n) (hn2 : n ≤ sizeLine) (hdf : d.params.defaults = []) (hr : Room k callerA)
    (F : ∀ (w : World) (mg : Str → Option Value) (fa : Addr) (h : Heap), YP w h → h.Ns mainGlobals mg → mg d.name = some (.ref fa) →
      ∃ (K : PySem.W.Frag) (fd : FuncData) (sp : Sp), K.In h ∧ (∀ (s : Shared) (u : Value), BindsTo s fd ⟨[u], []⟩ [(x, u)]) ∧
        (∀ (H : Hp) (a : Addr) (ns : List Int), ns.length ≤ n → (∀ z ∈ ns, Builtin.Int.intBits z ≤ 1048576) → Only H → SqL K H a (ns.map V.int) → sp [.ref a] H (fun v _ => v = .bl true) E0) ∧
        ∀ base : Heap, K.In base → base.Ns mainGlobals mg → FnG l.prog w K mg base k fa fd [x] sp) :
    PySem.W.WalkO q loose XP YP l.row.toRowW d [] (fun f vs => PySem.call f vs) := by
  refine Att.attach_callB hn hdf fun w s₀ s₁ mg mb fa o pm cd doc a vs ns G Y ho hd hcd hmg hobj hints hlen hbits hg => ?_
  obtain ⟨K, fd, sp, KX, hb, hsp, hF⟩ := F w mg fa _ Y G.T.g hmg
  exact law_end KX G.T.g G.T.b G.T.builtins G.T.nolimit hg hobj hints (Nat.le_trans hlen hn2) hr hF hb fun H hO hS => hsp H a ns hlen hbits hO hS
/-! ### the Hook -/
/-- a def with a closure: name, qualified name, parameters, body, scope -/
abbrev FnC : Type := Option (Str × Str × Arguments × FuncBody × Scope)
def fnC (K : PySem.W.Frag) (a : Addr) : FnC := match K.lookup a with
  | some ⟨_, _, .func fd, _⟩ => some (fd.name, fd.qualname, fd.params, fd.body, fd.scope)
  | _ => none
/-- a method of a class: the class's name, the method's name, its text -/
structure MthD where
  cls : Str
  name : Str
  qual : Str
  st : Stmt
def MthD.val (d : MthD) : FnC := some (d.name, d.qual, defArgs d.st, .stmts (defBody d.st), defScope d.st)
abbrev AlO : Type := He.AlD × List FnC × Bool
def asO (g : Addr → Option Obj) (n : Nat) : List Addr := He.asD g n ++ [cStatics]
def obsO (n : Nat) (fa : List He.Fa) (fn : List He.DefD) (mt : List MthD) (ex : PySem.W.Frag → Bool) (g : Addr → Option Obj) : AlO :=
  (He.obsD fa fn (He.frG g (asO g n)), mt.map fun d => fnC (He.frG g (asO g n)) (He.ma (He.frG g (asO g n)) (He.ga (He.frG g (asO g n)) d.cls) d.name), ex (He.frG g (asO g n)))
def valO (fn : List He.DefD) (mt : List MthD) : AlO := (He.valD fn, mt.map MthD.val, true)
structure SaysO (fa : List He.Fa) (fn : List He.DefD) (mt : List MthD) (ex : PySem.W.Frag → Bool) (K : PySem.W.Frag) : Prop where
  d : He.SaysD fa fn K
  m : mt.map (fun d => fnC K (He.ma K (He.ga K d.cls) d.name)) = mt.map MthD.val
  x : ex K = true
def hookO (n : Nat) (fa : List He.Fa) (fn : List He.DefD) (mt : List MthD) (ex : PySem.W.Frag → Bool) : PySem.W.Hook where
  α := AlO
  obs := fun s => obsO n fa fn mt ex s.heap.get?
  val := fun _ => valO fn mt
  says := fun _ h => ∃ K : PySem.W.Frag, K.In h ∧ SaysO fa fn mt ex K
  of := fun _ _ e => ⟨_, He.frG_in, ⟨congrArg (fun z : AlO => z.1) e, congrArg (fun z : AlO => z.2.1) e, congrArg (fun z : AlO => z.2.2) e⟩⟩
  keeps := fun _ _ _ ⟨K, hK, c⟩ k => ⟨K, PySem.W.Frag.In.keeps hK k, c⟩
theorem obsO_eq {n : Nat} {fa : List He.Fa} {fn : List He.DefD} {mt : List MthD} {ex : PySem.W.Frag → Bool} {g : Addr → Option Obj} {s : Shared} (h : ∀ a, g a = s.heap.get? a) : obsO n fa fn mt ex g = (hookO n fa fn mt ex).obs s := by
  have e : g = s.heap.get? := funext h
  rw [e] <;> rfl
theorem SaysO.mth {fa : List He.Fa} {fn : List He.DefD} {mt : List MthD} {ex : PySem.W.Frag → Bool} {K : PySem.W.Frag} (c : SaysO fa fn mt ex K) {d : MthD} (h : d ∈ mt) : fnC K (He.ma K (He.ga K d.cls) d.name) = d.val := by
  have e := c.m
  rw [List.map_inj_left] at e
  exact e d h
end Ow

/-! Ow.6: what is looked at of an exception class behind the top -/
namespace Ow
open PySem PySem.Spec L2 NdefX
def oexB (K : PySem.W.Frag) (C : Addr) : Bool := match K.lookup C with
  | some ⟨.type t, _, .cls cd, sl⟩ => decide (t = "type") && (match cd.mro, sl.toList with
    | .ref C' :: bm, [_, _, _, _, some (.builtin n), _] => decide (C' = C) && (decide (n = "ValueError.__new__") && (!cd.hasDel && (cd.hasDict && PySem.HandSPX.refsVE bm)))
    | _, _ => false)
  | _ => false
theorem oexB_ok {K : PySem.W.Frag} {C : Addr} (h : oexB K C = true) :
    ∃ nm q N bs bm sn sub ab col dd k0 k1 k2 k3 k5, K.lookup C = some (excClassObj nm q C N bs bm true sn sub ab col dd k0 k1 k2 k3 k5 "ValueError.__new__") ∧ PySem.HandSPX.refsVE bm = true := by
  unfold oexB at h
  split at h
  · rename_i t dd cd sl ho
    have h1 := (He.ba h).1
    replace h := (He.ba h).2
    replace h1 := of_decide_eq_true h1
    subst h1
    split at h
    · rename_i C' bm k0 k1 k2 k3 n k5 hm hs
      have h1 := (He.ba h).1
      replace h := (He.ba h).2
      have h2 := (He.ba h).1
      replace h := (He.ba h).2
      have h3 := (He.ba h).1
      replace h := (He.ba h).2
      obtain ⟨h4, h5⟩ := He.ba h
      replace h1 := of_decide_eq_true h1
      replace h2 := of_decide_eq_true h2
      subst h1 h2
      obtain ⟨nm, bs, mro, ns, qn, hd, sn, sub, ab, col, del⟩ := cd
      dsimp only at hm h3 h4
      replace h3 : del = false := by simpa using h3
      subst hm h3 h4
      have hsl : sl = #[k0, k1, k2, k3, some (.builtin "ValueError.__new__"), k5] := by
        obtain ⟨l⟩ := sl
        simp only at hs
        rw [hs]
      subst hsl
      exact ⟨nm, qn, ns, bs, bm, sn, sub, ab, col, dd, k0, k1, k2, k3, k5, ho, h5⟩
    · cases h
  · cases h
/-- the __init__ at f: its closure holds the class, its code the file -/
def iniB (file : Str) (K : PySem.W.Frag) (C f : Addr) : Bool := match K.lookup f with
  | some ⟨.type t, _, .func fd, _⟩ => decide (t = "function") && (decide (fd.globals = mainGlobals) && (decide (fd.builtins = builtinsNs) && (decide (fd.defaults = Value.none) && (match fd.closure, fd.code with
    | [(n, cc)], .ref c => decide (n = ("__class__" : Str)) && (PySem.W.codeIn K (.ref c) fd.qualname && ((match K.lookup cc with
      | some ⟨_, _, .cell (some v), _⟩ => decide (v = .ref C)
      | _ => false) && (match K.lookup c with
      | some ⟨_, _, .fields vs, _⟩ => (match (vs[2]? : Option Value) with
        | some (.str z _) => file == z
        | _ => false)
      | _ => false)))
    | _, _ => false))))
  | _ => false
theorem iniB_ok {file : Str} {K : PySem.W.Frag} {C f : Addr} (h : iniB file K C f = true) :
    ∃ (od : Option Addr) (sl : Array (Option Value)) (fd : FuncData) (cc c : Addr), K.lookup f = some (⟨.type "function", od, .func fd, sl⟩ : Obj) ∧ fd.globals = mainGlobals ∧ fd.builtins = builtinsNs ∧ fd.defaults = .none ∧ fd.closure = [(("__class__" : Str), cc)] ∧ fd.code = .ref c ∧ PySem.W.codeIn K (.ref c) fd.qualname = true ∧
      (∃ (oc : Value) (oo : Option Addr) (os : Array (Option Value)), K.lookup cc = some (⟨oc, oo, .cell (some (.ref C)), os⟩ : Obj)) ∧
      ∃ (oc : Value) (oo : Option Addr) (vs : Array Value) (os : Array (Option Value)) (z : Str) (tf : Tok), K.lookup c = some (⟨oc, oo, .fields vs, os⟩ : Obj) ∧ vs[2]? = some (.str z tf) ∧ (file == z) = true := by
  unfold iniB at h
  split at h
  · rename_i t od fd sl ho
    have h1 := (He.ba h).1
    replace h := (He.ba h).2
    have h2 := (He.ba h).1
    replace h := (He.ba h).2
    have h3 := (He.ba h).1
    replace h := (He.ba h).2
    have h4 := (He.ba h).1
    replace h := (He.ba h).2
    replace h1 := of_decide_eq_true h1
    subst h1
    split at h
    · rename_i n cc c hcl hcd
      have h5 := (He.ba h).1
      replace h := (He.ba h).2
      have h6 := (He.ba h).1
      replace h := (He.ba h).2
      obtain ⟨h7, h8⟩ := He.ba h
      replace h5 := of_decide_eq_true h5
      subst h5
      refine ⟨od, sl, fd, cc, c, ho, of_decide_eq_true h2, of_decide_eq_true h3, of_decide_eq_true h4, hcl, hcd, h6, ?_, ?_⟩
      · split at h7
        · rename_i oc oo v os q
          have e := of_decide_eq_true h7
          subst e
          exact ⟨oc, oo, os, q⟩
        · cases h7
      · split at h8
        · rename_i oc oo vs os q
          split at h8
          · rename_i z tf e
            exact ⟨oc, oo, vs, os, z, tf, q, e, h8⟩
          · cases h8
        · cases h8
    · cases h
  · cases h
def alongB (K : PySem.W.Frag) (C : Addr) : Bool := match PySem.W.clsIn K C with
  | some cd => He.eqO (PySem.W.alongIn K "__init__" ((cd.mro.dropWhile (· != .ref C)).drop 1)) (some (some (.builtin "ValueError.__init__")))
  | none => false
def bEq (a b : Option Bool) : Bool := decide (a = b)
/-- all that is looked at of the class x with the fields fs -/
def excB (file : Str) (K : PySem.W.Frag) (x : Str) (fs : List Str) : Bool :=
  He.eqO (PySem.W.nsIn K mainGlobals x) (some (some (.ref (He.ga K x)))) && (oexB K (He.ga K x) && (PySem.W.keepIn K (.ref (He.ga K x)) && (He.eqO (PySem.W.findIn K (.ref (He.ga K x)) "__setattr__") (some (some (.builtin "object.__setattr__"))) &&
  (decide (PySem.W.typeIn K (.ref (He.ga K x)) = some (.type "type")) && (He.eqO (PySem.W.findIn K (.ref (He.ga K x)) "__init__") (some (some (.ref (He.ma K (He.ga K x) "__init__")))) && (decide (PySem.W.typeIn K (.ref (He.ma K (He.ga K x) "__init__")) = some (.type "function")) &&
  (iniB file K (He.ga K x) (He.ma K (He.ga K x) "__init__") && (alongB K (He.ga K x) && (bEq (PySem.W.mroIn K (He.ga K x) (.ref (He.ga K x))) (some true) && (bEq (PySem.W.subIn K (.ref (He.ga K x)) (.type "ValueError")) (some true) &&
  (fs.all (fun y => He.eqO (PySem.W.findIn K (.ref (He.ga K x)) y) (some none)) && (xfB K (He.ga K x) && (He.eqO (PySem.W.findIn K (.ref (He.ga K x)) "__class__") (some (some (.builtin "object.__class__"))) && bEq (PySem.W.mroIn K (He.ga K x) (.type "object")) (some true))))))))))))))
/-- what is looked at once -/
def excB0 (K : PySem.W.Frag) : Bool := He.eqO (PySem.W.nsIn K cStatics "thirdparty.any") (some none) && (He.eqO (PySem.W.nsIn K mainGlobals "super") (some none) &&
  (He.eqO (PySem.W.specialIn K (.builtin "object.__class__") "__get__") (some (some (.builtin "getset_descriptor.__get__"))) && bEq (PySem.W.takesIn K (.builtin "object.__class__")) (some true)))
/-- F with the closure and code that K tells -/
def nfOf (qual : Str) (st : Stmt) (cl : List (Str × Addr)) (c : Addr) : NF := ⟨"__init__", qual, defArgs st, defBody st, defScope st, cl, c⟩
theorem excB_ok {P : Program} {K : PySem.W.Frag} {mg : Str → Option Value} {h : Heap} {x qual : Str} {fs : List Str} {st : Stmt} (X : K.In h) (G : h.Ns mainGlobals mg) (b0 : excB0 K = true) (b : excB P.main.file K x fs = true) (hl : fs.length ≤ 700)
    (hm : fnC K (He.ma K (He.ga K x) "__init__") = some (("__init__" : Str), qual, defArgs st, FuncBody.stmts (defBody st), defScope st)) (hi : ∀ cl c, IniBody P (nfOf qual st cl c) fs) :
    ∃ cl c fd, ExCl P K mg x (He.ga K x) (He.ma K (He.ga K x) "__init__") (nfOf qual st cl c) fs fd ∧ EIs K (He.ga K x) := by
  obtain ⟨o1, b0⟩ := He.ba b0
  obtain ⟨o2, b0⟩ := He.ba b0
  obtain ⟨o3, o4⟩ := He.ba b0
  obtain ⟨c1, b⟩ := He.ba b
  obtain ⟨c2, b⟩ := He.ba b
  obtain ⟨c3, b⟩ := He.ba b
  obtain ⟨c4, b⟩ := He.ba b
  obtain ⟨c5, b⟩ := He.ba b
  obtain ⟨c6, b⟩ := He.ba b
  obtain ⟨c7, b⟩ := He.ba b
  obtain ⟨c8, b⟩ := He.ba b
  obtain ⟨c9, b⟩ := He.ba b
  obtain ⟨c10, b⟩ := He.ba b
  obtain ⟨c11, b⟩ := He.ba b
  obtain ⟨c12, b⟩ := He.ba b
  obtain ⟨c13, b⟩ := He.ba b
  obtain ⟨c14, c15⟩ := He.ba b
  have xf := xfB_ok c13
  obtain ⟨od, sl, fd, cc, c, lk, g1, g2, g3, g4, g5, g6, ⟨oc, oo, os, gc⟩, ⟨oc2, oo2, vs, os2, z, tf, gd, ge, gf⟩⟩ := iniB_ok c8
  have hm2 : some (fd.name, fd.qualname, fd.params, fd.body, fd.scope) = some (("__init__" : Str), qual, defArgs st, FuncBody.stmts (defBody st), defScope st) := by
    rw [← hm]
    unfold fnC
    rw [lk]
  simp only [Option.some.injEq, Prod.mk.injEq] at hm2
  obtain ⟨m1, m2, m3, m4, m5⟩ := hm2
  obtain ⟨n1, n2, n3, n4, n5, n6, n7, n8, n9, n10, n11, n12, n13, n14, n15⟩ := fd
  dsimp only at m1 m2 m3 m4 m5 g1 g2 g3 g4 g5
  subst m1 m2 m3 m4 m5 g1 g2 g3 g4 g5
  have cls := oexB_ok c2
  refine ⟨[(("__class__" : Str), cc)], c, _, ⟨⟨⟨cls, He.eqO_ok c4, xf.exC, of_decide_eq_true c5, c3⟩, He.eqO_ok c6, ⟨od, sl, n9, n10, n11, n14, n12, lk⟩, ⟨oc2, oo2, vs, os2, z, tf, gd, ge, gf⟩, g6, ⟨cc, oc, oo, os, rfl, gc⟩, fun cd hcd => ?_, of_decide_eq_true c10, of_decide_eq_true c11, He.eqO_ok o1, PySem.W.mg_none_of X G (He.eqO_ok o2)⟩, hi _ _,
    fun y hy => He.eqO_ok (List.all_eq_true.mp c12 y hy), hl, of_decide_eq_true c7, ⟨od, sl, n9, n10, n11, n14, n12, rfl, lk⟩, xf, PySem.W.mg_of X G (He.eqO_ok c1)⟩, ⟨?_, xf.ga, xf.gg, xf.exC, He.eqO_ok c14, He.eqO_ok o3, of_decide_eq_true o4, of_decide_eq_true c15⟩⟩
  · unfold alongB at c9
    rw [hcd] at c9
    exact He.eqO_ok c9
  · cases e : PySem.W.clsIn K (He.ga K x) with
    | some cd => rfl
    | none =>
      unfold alongB at c9
      rw [e] at c9
      cases c9
end Ow

/-! Ow.E7: exception classes by name -/
namespace Ow
open PySem PySem.Spec L2 NdefX
/-- the module's name x stands for the exception class of the text whose __init__ is st, with the fields fs -/
def ClsAt (P : Program) (K : PySem.W.Frag) (mg : Str → Option Value) (x qual : Str) (st : Stmt) (fs : List Str) : Prop :=
  ∃ cl c fd, ExCl P K mg x (He.ga K x) (He.ma K (He.ga K x) "__init__") (nfOf qual st cl c) fs fd ∧ EIs K (He.ga K x)
def gKw {α : Type} (us ws : List α) : List α := us ++ ws.reverse
theorem vals_rev : ∀ {vs : List V} {us : List Value}, Vals vs us → Vals vs.reverse us.reverse
  | _, _, .nil => .nil
  | _, _, .cons (a := a) (b := b) (l₁ := l1) (l₂ := l2) r t => by
    rw [List.reverse_cons, List.reverse_cons]
    exact (vals_rev t).append (.cons r .nil)
/-- how the arguments of a call come to the parameters -/
def BindsX (x qual : Str) (st : Stmt) (fs : List Str) (n : Nat) (ks : List Str) : Prop :=
  ∀ (cl : List (Str × Addr)) (c : Addr) (kV doc pm ctv : Value) (an : Option Addr) (u : Value) (us ws : List Value), us.length = n → ws.length = ks.length →
    bindArgs (PySem.W.fnX "__init__" qual (defArgs st) (defBody st) (defScope st) cl .none kV doc pm an (.ref c) ctv) ⟨u :: us, ks.zip ws⟩ = pure ((psOf fs).zip (u :: gKw us ws))
section
variable {X : Cx} {n : Nat} {x qual : Str} {st : Stmt} {fs ks : List Str} {p pos : Pos} {e : Expr} {es : List Expr} {kws : List Keyword} {t tk : TA}
theorem ebn_of {K : PySem.W.Frag} {P : Program} {mg : Str → Option Value} {cl : List (Str × Addr)} {c : Addr} {C f : Addr} {fd : FuncData} (T : ExCl P K mg x C f (nfOf qual st cl c) fs fd) (hb : BindsX x qual st fs n ks) : EBn K fd fs n ks gKw gKw := by
  obtain ⟨od, sl, kV, doc, pm, ctv, an, rfl, lk⟩ := T.fd_
  exact ⟨fun s u us ws h1 h2 => .of_eq (hb cl c kV doc pm ctv an u us ws h1 h2), fun r1 r2 => r1.append (vals_rev r2)⟩
theorem pe_x0 (E : ClsAt X.prog X.K X.mg x qual st fs) (hr : Room 2 X.A) (hg : Gl X x) (hb : BindsX x qual st fs 0 ks) (hkw : PK X kws tk)
    (hall : (backToKw pos (keywordEach kws X.env)).all (·.1.isSome) = true := by rfl) (hks : (backToKw pos (keywordEach kws X.env)).filterMap (·.1) = ks := by rfl) (hdb : (x == ("__debug__" : Str)) = false := by decide)
    (hpl : ((backTo pos (starEach [] X.env)).any (·.1) || (backToKw pos (keywordEach kws X.env)).any (·.1.isNone)) = false := by rfl) :
    PE X (.Call (.Name x p) [] kws pos) (tExc (He.ga X.K x) fs 0 ks.length gKw tNil tk) := by
  obtain ⟨cl, c, fd, T, _⟩ := E
  exact pe_exc0 T hr hg (ebn_of T hb) hkw hall hks hdb hpl
theorem pe_xN (E : ClsAt X.prog X.K X.mg x qual st fs) (hr : Room 2 X.A) (hg : Gl X x) (hn : n ≤ 1000) (hb : BindsX x qual st fs n ks) (ha : PA X (e :: es) t) (hkw : PK X kws tk)
    (hall : (backToKw pos (keywordEach kws X.env)).all (·.1.isSome) = true := by rfl) (hks : (backToKw pos (keywordEach kws X.env)).filterMap (·.1) = ks := by rfl) (hdb : (x == ("__debug__" : Str)) = false := by decide)
    (he : starEach (e :: es) X.env = (false, eval e X.env) :: starEach es X.env := by rfl) (hpl : ((backTo pos (starEach (e :: es) X.env)).any (·.1) || (backToKw pos (keywordEach kws X.env)).any (·.1.isNone)) = false := by rfl) :
    PE X (.Call (.Name x p) (e :: es) kws pos) (tExc (He.ga X.K x) fs n ks.length gKw t tk) := by
  obtain ⟨cl, c, fd, T, _⟩ := E
  exact pe_excN T hr hg hn (ebn_of T hb) ha hkw hall hks hdb he hpl
end
end Ow
namespace Ow
open PySem PySem.Spec L2 NdefX
section
variable {P : Program} {K : PySem.W.Frag} {mg : Str → Option Value} {x qual : Str} {st : Stmt} {fs : List Str}
theorem ClsAt.xf (h : ClsAt P K mg x qual st fs) : XfC K (He.ga K x) := by
  obtain ⟨_, _, _, T, _⟩ := h
  exact T.xf
theorem ClsAt.no (h : ClsAt P K mg x qual st fs) {y : Str} (hy : y ∈ fs) : PySem.W.findIn K (.ref (He.ga K x)) y = some none := by
  obtain ⟨_, _, _, T, _⟩ := h
  exact T.no y hy
theorem ClsAt.is (h : ClsAt P K mg x qual st fs) : EIs K (He.ga K x) := by
  obtain ⟨_, _, _, _, T⟩ := h
  exact T
end
end Ow

/-! Ow.D1: draws: what pool, draw and of promise -/
namespace Ow
open PySem PySem.Spec L2
/-- all but p is as it was -/
def Keep (p : Addr) (H H' : Hp) : Prop := ∀ b o, b ≠ p → H b = some o → H' b = some o
theorem Keep.refl (p : Addr) (H : Hp) : Keep p H H := fun _ _ _ h => h
theorem Keep.trans {p : Addr} {H H1 H2 : Hp} (a : Keep p H H1) (b : Keep p H1 H2) : Keep p H H2 := fun c o n h => b c o n (a c o n h)
theorem Keep.of {p : Addr} {H H' : Hp} (a : Same H H') : Keep p H H' := fun b o _ h => a b o h
theorem keep_upd {p : Addr} {H : Hp} {o : HO} : Keep p H (upd H p o) := fun b u n h => by rw [upd_ne n]; exact h
/-- a pool: three ints, at most n numbers mixed so far -/
def PoolAt (H : Hp) (p : Addr) (n : Nat) : Prop := ∃ a b c : Int, H p = some (.lst [.int a, .int b, .int c]) ∧ 0 ≤ a ∧ 0 ≤ b ∧ b < 2 ^ 100 ∧ 0 ≤ c ∧ c ≤ (n : Int)
theorem PoolAt.mono {H : Hp} {p : Addr} {n m : Nat} (h : PoolAt H p n) (l : n ≤ m) : PoolAt H p m := by
  obtain ⟨a, b, c, h1, h2, h3, h4, h5, h6⟩ := h
  exact ⟨a, b, c, h1, h2, h3, h4, h5, Int.le_trans h6 (Int.ofNat_le.mpr l)⟩
theorem PoolAt.same {H H' : Hp} {p : Addr} {n : Nat} (h : PoolAt H p n) (s : Same H H') : PoolAt H' p n := by
  obtain ⟨a, b, c, h1, h2⟩ := h
  exact ⟨a, b, c, s _ _ h1, h2⟩
theorem PoolAt.ne {H : Hp} {p q : Addr} {n : Nat} (h : PoolAt H p n) (e : H q = none) : q ≠ p := by
  obtain ⟨a, b, c, h1, _⟩ := h
  exact (ne_of_none h1 e).symm
/-- what is new behind, was new ahead -/
theorem Keep.free {p : Addr} {H H' : Hp} {n m : Nat} (k : Keep p H H') (h : PoolAt H p n) (h' : PoolAt H' p m) {q : Addr} (e : H' q = none) : H q = none := by
  cases z : H q with
  | none => rfl
  | some o =>
    rw [k q o (h'.ne e) z] at e
    cases e
def spPool (K : PySem.W.Frag) : Sp := fun vs H Q _ => ∃ (s : Addr) (ns : List Int) (i : Nat), vs = [.ref s, .int (i : Int)] ∧ SqL K H s (ns.map V.int) ∧ i ≤ 1000 ∧ ∀ H' p, H p = none → Same H H' → PoolAt H' p 0 → Q (.ref p) H'
def spDraw : Sp := fun vs H Q _ => ∃ (p : Addr) (n : Nat) (m : Int), vs = [.ref p, .int m] ∧ PoolAt H p n ∧ n < 2 ^ 60 ∧ 0 < m ∧ m.natAbs < 2 ^ 200 ∧ ∀ H' (d : Int), Keep p H H' → PoolAt H' p (n + 1) → 0 ≤ d → d < m → Q (.int d) H'
def spOf (K : PySem.W.Frag) : Sp := fun vs H Q _ => ∃ (p l : Addr) (n : Nat) (xs : List V), vs = [.ref p, .ref l] ∧ PoolAt H p n ∧ n < 2 ^ 60 ∧ SqL K H l xs ∧ l ≠ p ∧ 0 < xs.length ∧ xs.length ≤ 1000 ∧ ∀ H' v, Keep p H H' → PoolAt H' p (n + 1) → v ∈ xs → Q v H'
/-! ### the numbers -/
theorem div_nonneg_of {a m : Int} (h : 0 ≤ a) (h2 : 0 < m) : 0 ≤ a / m := Int.ediv_nonneg h (Int.le_of_lt h2)
theorem mix1 {b c : Int} (h1 : 0 ≤ b) (h2 : b < 2 ^ 100) (h3 : 0 ≤ c) (h4 : c ≤ 2 ^ 61) : 0 ≤ b + 982451653 * c ∧ (b + 982451653 * c).natAbs < 2 ^ 101 := by
  have : (2 : Int) ^ 100 = 1267650600228229401496703205376 := by decide
  have : (2 : Int) ^ 61 = 2305843009213693952 := by decide
  have : (2 : Nat) ^ 101 = 2535301200456458802993406410752 := by decide
  omega
theorem mix2 {x c : Int} (h1 : 0 ≤ x) (h2 : x < 162259276829213363391578010288127) (h3 : 0 ≤ c) (h4 : c ≤ 2 ^ 61) : 0 ≤ x + 32452867 * c ∧ (x + 32452867 * c).natAbs < 2 ^ 108 := by
  have : (2 : Int) ^ 61 = 2305843009213693952 := by decide
  have : (2 : Nat) ^ 108 = 324518553658426726783156020576256 := by decide
  omega
theorem sqL_keep {K : PySem.W.Frag} {H H' : Hp} {p l : Addr} {xs : List V} (h : SqL K H l xs) (n : l ≠ p) (k : Keep p H H') : SqL K H' l xs := by
  rcases h with (h | ⟨o, h⟩) | h
  · exact .inl (.inl (k _ _ n h))
  · exact .inl (.inr ⟨o, k _ _ n h⟩)
  · exact .inr h
/-- the built-ins that the laws call are the built-ins -/
structure Blt (mg : Str → Option Value) : Prop where
  len : mg "len" = none
  abs : mg "abs" = none
  int : mg "int" = none
  range : mg "range" = none
  max : mg "max" = none
  min : mg "min" = none
  isinstance : mg "isinstance" = none
  tuple : mg "tuple" = none
  repr : mg "repr" = none
end Ow

/-! Ow.D2: values that are drawn -/
namespace Ow
open PySem PySem.Spec L2
/-- None, a truth value, an int of some forty digits, a text of at most six signs -/
def Pln (v : V) : Prop := v = .non ∨ (∃ b, v = .bl b) ∨ (∃ i : Int, v = .int i ∧ i.natAbs < 2 ^ 140) ∨ ∃ x : Str, v = .str x ∧ x.length ≤ 6 ∧ ∀ c ∈ x.cps.toList, c < 128
/-- such a value, or a tuple of at most three -/
def ValAt (H : Hp) (v : V) : Prop := Pln v ∨ ∃ t xs, v = .ref t ∧ H t = some (.tup xs) ∧ xs.length ≤ 3 ∧ ∀ x ∈ xs, Pln x
theorem ValAt.same {H H' : Hp} {v : V} (h : ValAt H v) (s : Same H H') : ValAt H' v := by
  rcases h with h | ⟨t, xs, e, h, r⟩
  · exact .inl h
  · exact .inr ⟨t, xs, e, s _ _ h, r⟩
theorem ValAt.keep {H H' : Hp} {p : Addr} {n : Nat} {v : V} (h : ValAt H v) (hp : PoolAt H p n) (s : Keep p H H') : ValAt H' v := by
  rcases h with h | ⟨t, xs, e, h, r⟩
  · exact .inl h
  · obtain ⟨a, b, c, hp, _⟩ := hp
    exact .inr ⟨t, xs, e, s _ _ (ne_of h hp (fun z => nomatch z)) h, r⟩
def spPlain : Sp := fun vs H Q _ => ∃ (p : Addr) (n : Nat), vs = [.ref p] ∧ PoolAt H p n ∧ n < 2 ^ 50 ∧ ∀ H' v, Keep p H H' → PoolAt H' p (n + 10) → Pln v → Q v H'
def spValue : Sp := fun vs H Q _ => ∃ (p : Addr) (n : Nat), vs = [.ref p] ∧ PoolAt H p n ∧ n < 2 ^ 40 ∧ ∀ H' v, Keep p H H' → PoolAt H' p (n + 50) → ValAt H' v → Q v H'
theorem join_len (sep : Str) : ∀ ys : List Str, (Str.join sep ys).length ≤ (ys.map (·.length)).sum + ys.length * sep.length
  | [] => Nat.zero_le _
  | [x] => by
    show x.length ≤ _
    simp
  | x :: y :: r => by
    have ih := join_len sep (y :: r)
    show (x ++ sep ++ Str.join sep (y :: r)).length ≤ _
    rw [Str.length_append, Str.length_append]
    simp only [List.map_cons, List.sum_cons, List.length_cons, Nat.add_mul, Nat.one_mul] at ih ⊢
    omega
theorem sum_ones : ∀ ys : List Str, (∀ y ∈ ys, y.length = 1) → (ys.map (·.length)).sum = ys.length
  | [], _ => rfl
  | y :: r, h => by
    rw [List.map_cons, List.sum_cons, List.length_cons, sum_ones r fun z hz => h z (List.mem_cons_of_mem _ hz), h y List.mem_cons_self]
    omega
theorem big40 {d : Int} (h0 : 0 ≤ d) (h1 : d < 2 * 10 ^ 40 - 1) : (d - 10 ^ 40 + 1).natAbs < 2 ^ 140 := by
  have e1 : (10 : Int) ^ 40 = 10000000000000000000000000000000000000000 := by decide
  have e2 : (2 : Nat) ^ 140 = 1393796574908163946345982392040522594123776 := by decide
  rw [e1] at h1 ⊢
  rw [e2]
  omega
end Ow

/-! Ow.R1: rows (name, error, told, due) -/
namespace Ow
open PySem PySem.Spec L2
theorem same_new {H : Hp} {p : Addr} {o : HO} (h : H p = none) : Same H (upd H p o) := fun b u e => by rw [upd_ne (ne_of_none e h)]; exact e
def Row (K : PySem.W.Frag) (ns : List Str) (H : Hp) (v : V) : Prop := ∃ (t e told due : Addr) (nm : Str) (l : List (Str × V)) (us : List V),
  v = .ref t ∧ H t = some (.tup [.str nm, .ref e, .ref told, .ref due]) ∧ nm ∈ ns ∧ ExcAt H e (He.ga K nm) l ∧ H told = some (.tup us) ∧ H due = some (.tup us) ∧ us.length ≤ 3 ∧ ∀ u ∈ us, ValAt H u
theorem Row.same {K : PySem.W.Frag} {ns : List Str} {H H' : Hp} {v : V} (h : Row K ns H v) (s : Same H H') : Row K ns H' v := by
  obtain ⟨t, e, told, due, nm, l, us, h1, h2, h3, h4, h5, h6, h7, h8⟩ := h
  exact ⟨t, e, told, due, nm, l, us, h1, s _ _ h2, h3, h4.same s, s _ _ h5, s _ _ h6, h7, fun u hu => (h8 u hu).same s⟩
def RowsAt (K : PySem.W.Frag) (ns : List Str) (H : Hp) (D : Addr) (n : Nat) : Prop := ∃ rows, H D = some (.lst rows) ∧ rows.length ≤ n ∧ ∀ r ∈ rows, Row K ns H r
theorem RowsAt.same {K : PySem.W.Frag} {ns : List Str} {H H' : Hp} {D : Addr} {n : Nat} (h : RowsAt K ns H D n) (s : Same H H') : RowsAt K ns H' D n := by
  obtain ⟨rows, h1, h2, h3⟩ := h
  exact ⟨rows, s _ _ h1, h2, fun r hr => (h3 r hr).same s⟩
section
variable {K : PySem.W.Frag} {ns : List Str} {σ : L2.St} {H : Hp} {Q : VK} {j : Nat}
/-- one row more -/
theorem row_turn {nm : Str} {l : List (Str × V)} {us : List V} {σ2 : L2.St} {tf ta : TA} {e : Addr} {acc : List V} {D : Addr} {Nx : Hp → Prop} (hnm : nm ∈ ns) (hul : us.length ≤ 3) (hv : ∀ u ∈ us, ValAt H u) (he : ExcAt H e (He.ga K nm) l)
    (hD : H D = some (.lst acc)) (hz : acc.length < sizeLine) {te : TE} (hte : ∀ (H' : Hp) (Q : VK), Q (.ref e) H' → te σ2 H' Q) {tn : TE} (htn : ∀ (H' : Hp) (Q : VK), Q (.str nm) H' → tn σ2 H' Q)
    (hf : ∀ (Q : List V → Hp → Prop), Q us H → tf σ2 H Q) (ha : ∀ (H' : Hp) (Q : List V → Hp → Prop), Q us H' → ta σ2 H' Q)
    (hn : ∀ H' v, Keep D H H' → H' D = some (.lst (acc ++ [v])) → Row K ns H' v → Nx H') :
    (tTup (tCons tn (tCons te (tCons (tTup tf) (tCons (tTup ta) tNil))))) σ2 H fun y H4 => ∃ acc, H4 D = some (.lst acc) ∧ acc.length < sizeLine ∧ Nx (upd H4 D (.lst (acc ++ [y]))) := by
  have h3 : us.length ≤ sizeLine := by
    rw [sizeLine_eq]
    omega
  refine htn _ _ (hte _ _ (hf _ ⟨h3, fun p1 n1 => ha _ _ ⟨h3, fun p2 n2 => ?_⟩⟩))
  refine ⟨by show 4 ≤ sizeLine; decide, fun t nt => ?_⟩
  have s1 : Same H (upd H p1 (.tup us)) := same_new n1
  have s2 : Same (upd H p1 (.tup us)) (upd (upd H p1 (.tup us)) p2 (.tup us)) := same_new n2
  have s3 : Same (upd (upd H p1 (.tup us)) p2 (.tup us)) (upd (upd (upd H p1 (.tup us)) p2 (.tup us)) t (.tup [.str nm, .ref e, .ref p1, .ref p2])) := same_new nt
  have s := s1.trans (s2.trans s3)
  have hD4 := s _ _ hD
  refine ⟨acc, hD4, hz, ?_⟩
  have kd : ∀ {b : Addr} {o : HO} {H' : Hp}, b ≠ D → H' b = some o → (upd H' D (.lst (acc ++ [V.ref t]))) b = some o := fun {b o H'} nb q => by rw [upd_ne nb]; exact q
  have ne_tup : ∀ {b : Addr} {xs : List V} {H' : Hp}, H' b = some (.tup xs) → H' D = some (.lst acc) → b ≠ D := fun {b xs H'} q1 q2 => ne_of q1 q2 (fun z => nomatch z)
  have q1 := s3 _ _ (s2 _ _ (upd_same (H := H) (a := p1) (o := .tup us)))
  have q2 := s3 _ _ (upd_same (H := upd H p1 (.tup us)) (a := p2) (o := .tup us))
  have q3 : (upd (upd (upd H p1 (.tup us)) p2 (.tup us)) t (.tup [.str nm, .ref e, .ref p1, .ref p2])) t = some (.tup [.str nm, .ref e, .ref p1, .ref p2]) := upd_same
  refine hn _ (.ref t) (fun b o nb q => kd nb (s _ _ q)) upd_same ⟨t, e, p1, p2, nm, l, us, rfl, kd (ne_tup q3 hD4) q3, hnm, ?_, kd (ne_tup q1 hD4) q1, kd (ne_tup q2 hD4) q2, hul, fun u hu => ?_⟩
  · rcases he with ⟨el, he⟩ | ⟨d, he, hd⟩
    · exact .inl ⟨el, kd (at_ne hD he (fun z => nomatch (show HO.lst acc = HO.ext _ from z))) (s _ _ he)⟩
    · exact .inr ⟨d, kd (at_ne hD he (fun z => nomatch (show HO.lst acc = HO.ext _ from z))) (s _ _ he), kd (at_ne hD hd (fun z => nomatch (show HO.lst acc = HO.ext _ from z))) (s _ _ hd)⟩
  · rcases hv u hu with z | ⟨t', xs, e', h, r⟩
    · exact .inl z
    · exact .inr ⟨t', xs, e', kd (ne_tup (s _ _ h) hD4) (s _ _ h), r⟩
/-- what was true of the rows stays, when the list itself grows -/
theorem Row.grown {H' : Hp} {D : Addr} {acc : List V} {v : V} (h : Row K ns H v) (hD : H D = some (.lst acc)) (k : Keep D H H') : Row K ns H' v := by
  obtain ⟨t, e, told, due, nm, l, us, h1, h2, h3, h4, h5, h6, h7, h8⟩ := h
  have nt : ∀ {b : Addr} {xs : List V}, H b = some (.tup xs) → b ≠ D := fun {b xs} q => ne_of q hD (fun z => nomatch z)
  refine ⟨t, e, told, due, nm, l, us, h1, k _ _ (nt h2) h2, h3, ?_, k _ _ (nt h5) h5, k _ _ (nt h6) h6, h7, fun u hu => ?_⟩
  · rcases h4 with ⟨el, he⟩ | ⟨d, he, hd⟩
    · exact .inl ⟨el, k _ _ (at_ne hD he (fun z => nomatch (show HO.lst acc = HO.ext _ from z))) he⟩
    · exact .inr ⟨d, k _ _ (at_ne hD he (fun z => nomatch (show HO.lst acc = HO.ext _ from z))) he, k _ _ (at_ne hD hd (fun z => nomatch (show HO.lst acc = HO.ext _ from z))) hd⟩
  · rcases h8 u hu with z | ⟨t', xs, e', h, r⟩
    · exact .inl z
    · exact .inr ⟨t', xs, e', k _ _ (nt h) h, r⟩
end
end Ow

/-! Ow.R2: comprehensions that make rows -/
namespace Ow
open PySem PySem.Spec L2
section
variable {K : PySem.W.Frag} {ns : List Str} {σ : L2.St} {H : Hp} {Q : VK} {j : Nat}
theorem ExcAt.ne {D a C : Addr} {acc : List V} {l : List (Str × V)} (hD : H D = some (.lst acc)) (he : ExcAt H a C l) : a ≠ D := by
  rcases he with ⟨el, he⟩ | ⟨d, he, hd⟩
  · exact at_ne hD he (fun z => nomatch (show HO.lst acc = HO.ext _ from z))
  · exact at_ne hD he (fun z => nomatch (show HO.lst acc = HO.ext _ from z))
theorem ExcAt.grown {D a C : Addr} {acc : List V} {l : List (Str × V)} {H' : Hp} (he : ExcAt H a C l) (hD : H D = some (.lst acc)) (k : Keep D H H') : ExcAt H' a C l := by
  rcases he with ⟨el, he⟩ | ⟨d, he, hd⟩
  · exact .inl ⟨el, k _ _ (at_ne hD he (fun z => nomatch (show HO.lst acc = HO.ext _ from z))) he⟩
  · exact .inr ⟨d, k _ _ (at_ne hD he (fun z => nomatch (show HO.lst acc = HO.ext _ from z))) he, k _ _ (at_ne hD hd (fun z => nomatch (show HO.lst acc = HO.ext _ from z))) hd⟩
/-- the turns of a comprehension over the list at L: G i x: what is known of the i-th item; hs: one turn -/
theorem rows_lc {L : Addr} {xs : List V} {g : TG} {tt : TT} {te : TE} {vs : List Nat} (hL : H L = some (.lst xs)) (hn : xs.length ≤ 1000)
    (hs : ∀ (x : V) (H' : Hp) (D : Addr) (acc : List V) (Nx : Hp → Prop), x ∈ xs → Same H H' → H D = none → H' D = some (.lst acc) → acc.length < sizeLine →
      (∀ H2 v, Keep D H' H2 → H2 D = some (.lst (acc ++ [v])) → Row K ns H2 v → Nx H2) →
      g x (wipe σ vs) H' fun σ2 H2 => wipe σ2 vs = wipe σ vs ∧ tt σ2 H2 fun b H3 => if b = true then te σ2 H3 fun y H4 => ∃ acc, H4 D = some (.lst acc) ∧ acc.length < sizeLine ∧ Nx (upd H4 D (.lst (acc ++ [y]))) else Nx H3)
    (k : ∀ D H', Same H H' → RowsAt K ns H' D xs.length → Q (.ref D) H') : tLc (fun _ H1 R => R (Itl K L) H1) g tt te vs σ H Q := by
  intro D hD
  have nLD : L ≠ D := ne_of_none hL hD
  refine lc_list (K := K) (a := L) (xs := xs) (fun i H' => ∃ rows, H' D = some (.lst rows) ∧ rows.length = i ∧ Same H H' ∧ ∀ r ∈ rows, Row K ns H' r)
    ⟨[], upd_same, rfl, same_new hD, fun _ z => nomatch z⟩ (fun i H' _ ⟨_, _, _, s, _⟩ => SqL.of (s _ _ hL)) ?_ ?_
  · rintro i x H' hi ⟨rows, h1, h2, s, h3⟩
    have hi2 : i < xs.length := (List.getElem?_eq_some_iff.mp hi).1
    refine hs x H' D rows _ (List.mem_of_getElem? hi) s hD h1 (by rw [h2, sizeLine_eq]; omega) fun H2 v kp h4 h5 => ?_
    refine ⟨rows ++ [v], h4, by rw [List.length_append, h2]; rfl, fun b o e => ?_, fun r hr => ?_⟩
    · exact kp _ _ (ne_of_none e hD) (s _ _ e)
    · rcases List.mem_append.mp hr with z | z
      · exact (h3 r z).grown h1 kp
      · rw [List.mem_singleton.mp z]
        exact h5
  · rintro H' ⟨rows, h1, h2, s, h3⟩
    exact k _ _ s ⟨rows, h1, by omega, h3⟩
/-- [(nm, e, (e.f, ..), (a, ..)) for e in L] -/
theorem rows_e {L : Addr} {xs us : List V} {tf ta : TA} {nm : Str} {l : List (Str × V)} (hL : H L = some (.lst xs)) (hn : xs.length ≤ 1000) (hnm : nm ∈ ns) (hul : us.length ≤ 3) (hv : ∀ u ∈ us, ValAt H u) (hj : j < σ.length)
    (hx : ∀ x ∈ xs, ∃ e, x = .ref e ∧ ExcAt H e (He.ga K nm) l)
    (hf : ∀ (H' : Hp) (e : Addr) (Q : List V → Hp → Prop), ExcAt H' e (He.ga K nm) l → Q us H' → tf ((wipe σ [j]).set j (some (.ref e))) H' Q)
    (ha : ∀ (H' : Hp) (e : Addr) (Q : List V → Hp → Prop), Q us H' → ta ((wipe σ [j]).set j (some (.ref e))) H' Q)
    (k : ∀ D H', Same H H' → RowsAt K ns H' D xs.length → Q (.ref D) H') :
    tLc (fun _ H1 R => R (Itl K L) H1) (gName j) tYes (tTup (tCons (tC (.str nm)) (tCons (tVar j) (tCons (tTup tf) (tCons (tTup ta) tNil))))) [j] σ H Q := by
  refine rows_lc hL hn (fun x H' D acc Nx hm s hD h1 hz hN => ?_) k
  obtain ⟨e, rfl, he⟩ := hx x hm
  refine ⟨?_, ?_⟩
  · show (((wipe σ []).set j none).set j (some (V.ref e))).set j none = (wipe σ []).set j none
    rw [List.set_set, List.set_set]
  · exact row_turn hnm hul (fun u hu => (hv u hu).same s) (he.same s) h1 hz (te := tVar j) (fun H2 Q q => ⟨_, by
      show (((wipe σ []).set j none).set j (some (V.ref e)))[j]? = some (some (V.ref e))
      rw [List.getElem?_set_self (by rw [List.length_set]; exact hj)], q⟩) (tn := tC (.str nm)) (fun H2 Q q => q) (fun Q q => hf _ _ _ (he.same s) q) (fun H2 Q q => ha _ _ _ q) hN
/-- the same over a display of two new errors -/
theorem rows_two {us : List V} {tx1 tx2 : TE} {tf ta : TA} {nm : Str} {l : List (Str × V)} (hnm : nm ∈ ns) (hul : us.length ≤ 3) (hv : ∀ u ∈ us, ValAt H u) (hj : j < σ.length)
    (h1 : ∀ (H' : Hp) (Q : VK), (∀ a H2, H' a = none → Same H' H2 → ExcAt H2 a (He.ga K nm) l → Q (.ref a) H2) → tx1 σ H' Q)
    (h2 : ∀ (H' : Hp) (Q : VK), (∀ a H2, H' a = none → Same H' H2 → ExcAt H2 a (He.ga K nm) l → Q (.ref a) H2) → tx2 σ H' Q)
    (hf : ∀ (H' : Hp) (e : Addr) (Q : List V → Hp → Prop), ExcAt H' e (He.ga K nm) l → Q us H' → tf ((wipe σ [j]).set j (some (.ref e))) H' Q)
    (ha : ∀ (H' : Hp) (e : Addr) (Q : List V → Hp → Prop), Q us H' → ta ((wipe σ [j]).set j (some (.ref e))) H' Q)
    (k : ∀ D H', Same H H' → RowsAt K ns H' D 2 → Q (.ref D) H') :
    tLc (iList K (tLst (tCons tx1 (tCons tx2 tNil)))) (gName j) tYes (tTup (tCons (tC (.str nm)) (tCons (tVar j) (tCons (tTup tf) (tCons (tTup ta) tNil))))) [j] σ H Q := by
  refine h1 _ _ fun a1 H1 n1 s1 x1 => h2 _ _ fun a2 H2 n2 s2 x2 => ⟨by show 2 ≤ sizeLine; decide, fun L nL => ⟨L, rfl, ⟨_, SqL.of upd_same⟩, ?_⟩⟩
  have s3 : Same H2 (upd H2 L (.lst [V.ref a1, V.ref a2])) := same_new nL
  have s := s1.trans (s2.trans s3)
  refine rows_e (xs := [V.ref a1, V.ref a2]) upd_same (by show 2 ≤ 1000; decide) hnm hul (fun u hu => (hv u hu).same s) hj (fun x hx => ?_) hf ha (fun D H' s' r => k _ _ (s.trans s') r)
  simp only [List.mem_cons, List.not_mem_nil, or_false] at hx
  rcases hx with rfl | rfl
  · exact ⟨a1, rfl, x1.same (s2.trans s3)⟩
  · exact ⟨a2, rfl, x2.same s3⟩
/-- two lists of rows in one -/
theorem rows_cat {a b : Addr} {n m : Nat} (ha : RowsAt K ns H a n) (hb : RowsAt K ns H b m) (hz : n + m ≤ 1000) (k : ∀ D H', Same H H' → RowsAt K ns H' D (n + m) → Q (.ref D) H') : rCat (.ref a) (.ref b) H Q := by
  obtain ⟨xs, a1, a2, a3⟩ := ha
  obtain ⟨ys, b1, b2, b3⟩ := hb
  refine ⟨a, b, xs, ys, rfl, rfl, a1, b1, ?_, fun p hp => k p _ (same_new hp) ⟨xs ++ ys, upd_same, by rw [List.length_append]; omega, fun r hr => ?_⟩⟩
  · rw [sizeLine_eq]
    omega
  · rcases List.mem_append.mp hr with z | z
    · exact (a3 r z).same (same_new hp)
    · exact (b3 r z).same (same_new hp)
end
end Ow

/-! Ow.R3: pairs (name, error); pairs (name, isinstance) -/
namespace Ow
open PySem PySem.Spec L2
section
variable {K : PySem.W.Frag} {ns : List Str} {σ : L2.St} {H : Hp} {a : V}
def MadeAt (K : PySem.W.Frag) (ns : List Str) (a : V) (H : Hp) (v : V) : Prop := ∃ (t : Addr) (nm : Str) (e : Addr), v = .ref t ∧ H t = some (.tup [.str nm, .ref e]) ∧ nm ∈ ns ∧ ExcAt H e (He.ga K nm) [(("at" : Str), a)]
theorem MadeAt.same {H' : Hp} {v : V} (h : MadeAt K ns a H v) (s : Same H H') : MadeAt K ns a H' v := by
  obtain ⟨t, nm, e, h1, h2, h3, h4⟩ := h
  exact ⟨t, nm, e, h1, s _ _ h2, h3, h4.same s⟩
def MadesAt (K : PySem.W.Frag) (ns : List Str) (a : V) (H : Hp) (D : Addr) (n : Nat) : Prop := ∃ xs, H D = some (.lst xs) ∧ xs.length ≤ n ∧ ∀ x ∈ xs, MadeAt K ns a H x
theorem MadesAt.same {H' : Hp} {D : Addr} {n : Nat} (h : MadesAt K ns a H D n) (s : Same H H') : MadesAt K ns a H' D n := by
  obtain ⟨xs, h1, h2, h3⟩ := h
  exact ⟨xs, s _ _ h1, h2, fun x hx => (h3 x hx).same s⟩
theorem made_cons {Q : List V → Hp → Prop} {nm : Str} {tx : TE} {rest : TA} (hnm : nm ∈ ns) (hx : ∀ (H' : Hp) (Q : VK), (∀ e H2, H' e = none → Same H' H2 → ExcAt H2 e (He.ga K nm) [(("at" : Str), a)] → Q (.ref e) H2) → tx σ H' Q)
    (k : ∀ v H', Same H H' → MadeAt K ns a H' v → rest σ H' fun vs H2 => Q (v :: vs) H2) : tCons (tTup (tCons (tC (.str nm)) (tCons tx tNil))) rest σ H Q := by
  refine hx _ _ fun e H1 n1 s1 x1 => ⟨by show 2 ≤ sizeLine; decide, fun t nt => ?_⟩
  have s2 := same_new (o := .tup [.str nm, .ref e]) nt
  exact k _ _ (s1.trans s2) ⟨t, nm, e, rfl, upd_same, hnm, x1.same s2⟩
theorem lst_ {Q : VK} {t : TA} (h : t σ H fun xs H1 => xs.length ≤ sizeLine ∧ ∀ p, H1 p = none → Q (.ref p) (upd H1 p (.lst xs))) : tLst t σ H Q := h
theorem mades_cat {Q : VK} {p q : Addr} {n m : Nat} (hp : MadesAt K ns a H p n) (hq : MadesAt K ns a H q m) (hz : n + m ≤ 1000) (k : ∀ D H', Same H H' → MadesAt K ns a H' D (n + m) → Q (.ref D) H') : rCat (.ref p) (.ref q) H Q := by
  obtain ⟨xs, a1, a2, a3⟩ := hp
  obtain ⟨ys, b1, b2, b3⟩ := hq
  refine ⟨p, q, xs, ys, rfl, rfl, a1, b1, ?_, fun D hD => k D _ (same_new hD) ⟨xs ++ ys, upd_same, by rw [List.length_append]; omega, fun r hr => ?_⟩⟩
  · rw [sizeLine_eq]
    omega
  · rcases List.mem_append.mp hr with z | z
    · exact (a3 r z).same (same_new hD)
    · exact (b3 r z).same (same_new hD)
/-! ### (name, isinstance(e, C)) -/
def tPairs (K : PySem.W.Frag) : List Str → TA
  | [] => tNil
  | nm :: r => tCons (tTup (tCons (tC (.str nm)) (tCons (tCB (rEis K) (tCons (tVar 0) (tCons (tC (.ref (He.ga K nm))) tNil))) tNil))) (tPairs K r)
/-- a pair (name, whether it is nm0) -/
def PairAt (nm0 : Str) (H : Hp) (nm : Str) (v : V) : Prop := ∃ t, v = .ref t ∧ H t = some (.tup [.str nm, .bl (decide (nm0 = nm))])
inductive Pairs (nm0 : Str) (H : Hp) : List Str → List V → Prop
  | nil : Pairs nm0 H [] []
  | cons {nm : Str} {r : List Str} {v : V} {vs : List V} : PairAt nm0 H nm v → Pairs nm0 H r vs → Pairs nm0 H (nm :: r) (v :: vs)
theorem Pairs.length {nm0 : Str} : ∀ {r : List Str} {vs : List V}, Pairs nm0 H r vs → vs.length = r.length
  | _, _, .nil => rfl
  | _, _, .cons _ t => congrArg (· + 1) t.length
theorem Pairs.get {nm0 : Str} : ∀ {r : List Str} {vs : List V} {i : Nat} {v : V}, Pairs nm0 H r vs → vs[i]? = some v → ∃ nm, r[i]? = some nm ∧ PairAt nm0 H nm v
  | _, _, _, _, .nil, e => by simp at e
  | _, _, 0, _, .cons p _, e => by
    cases e
    exact ⟨_, rfl, p⟩
  | _, _, i + 1, v, .cons _ t, e => by
    obtain ⟨nm, h1, h2⟩ := Pairs.get (i := i) (v := v) t (by simpa using e)
    exact ⟨nm, by simpa using h1, h2⟩
theorem pairs_read {e : Addr} {nm0 : Str} {l : List (Str × V)} (h0 : σ[0]? = some (some (.ref e))) (hi : EIs K (He.ga K nm0)) : ∀ (r : List Str) (H : Hp) (Q : List V → Hp → Prop), ExcAt H e (He.ga K nm0) l →
    (∀ nm ∈ r, PySem.W.kitOne K (.ref (He.ga K nm0)) (.ref (He.ga K nm)) = some (decide (nm0 = nm))) → (∀ vs H', Same H H' → Pairs nm0 H' r vs → Q vs H') → tPairs K r σ H Q
  | [], H, Q, _, _, k => k [] H (Same.refl _) .nil
  | nm :: r, H, Q, he, hk, k => by
    refine ⟨_, h0, e, _, l, _, _, _, rfl, he, hi, fun u hu => hu, hk nm List.mem_cons_self, ?_⟩
    refine ⟨by show 2 ≤ sizeLine; decide, fun t nt => ?_⟩
    have s := same_new (o := .tup [.str nm, .bl (decide (nm0 = nm))]) nt
    refine pairs_read h0 hi r _ _ (he.same s) (fun x hx => hk x (List.mem_cons_of_mem _ hx)) fun vs H' s' ps => k _ _ (s.trans s') (.cons ⟨t, rfl, s' _ _ upd_same⟩ ps)
theorem Pairs.same {nm0 : Str} {H' : Hp} (s : Same H H') : ∀ {r : List Str} {vs : List V}, Pairs nm0 H r vs → Pairs nm0 H' r vs
  | _, _, .nil => .nil
  | _, _, .cons ⟨t, e, h⟩ p => .cons ⟨t, e, s _ _ h⟩ (p.same s)
end
end Ow

/-! Ow.D3: the drawn values as data, and how they are shown -/
namespace Ow
open PySem PySem.Spec L2
structure Shw (n k : Nat) (d : PyData) : Prop where
  sh : d.showable = true
  nd : d.hasDict = false
  dp : d.depth ≤ n
  ln : d.shown.length ≤ k
theorem pln_data {v : V} (h : Pln v) : ∃ d, (∀ K H, Dp K H v d) ∧ Shw 0 2000 d := by
  rcases h with rfl | ⟨b, rfl⟩ | ⟨i, rfl, hi⟩ | ⟨x, rfl, hx, hc⟩
  · exact ⟨.none, fun _ _ => .non, rfl, rfl, Nat.le_refl _, by decide +kernel⟩
  · refine ⟨.bool b, fun _ _ => .bl b, rfl, rfl, Nat.le_refl _, ?_⟩
    cases b <;> decide +kernel
  · have hl : i.natAbs.log2 < 1920 := Nat.lt_trans (PySem.Flt.log2_lt_of (by decide) hi) (by decide)
    refine ⟨.int i, fun _ _ => .int i, decide_eq_true hl, rfl, Nat.le_refl _, ?_⟩
    exact Nat.le_trans (PyProof.Rows.int_text_len_1921 hl) (by decide)
  · refine ⟨.str x, fun _ _ => .str x, rfl, rfl, Nat.le_refl _, ?_⟩
    refine Nat.le_trans (StrLaws.reprText_len x fun c h => Nat.lt_trans (hc c h) (by decide)) ?_
    omega
theorem tup_len (ts : List Str) (k : Nat) (h : ∀ t ∈ ts, t.length ≤ k) : (tupleText ts).length ≤ ts.length * (k + 2) + 3 := by
  have h1 := StrLaws.join_length_le (", " : Str) ts
  have h2 := StrLaws.sumLen_le ts h
  have e : ((", " : Str)).length = 2 := by decide +kernel
  rw [e] at h1
  unfold tupleText
  rw [Str.length_append, Str.length_append]
  have e1 : ((("(" : String) : Str)).length = 1 := by decide +kernel
  have e2 : ∀ b : Bool, ((if b then ",)" else ")" : String) : Str).length ≤ 2 := by decide +kernel
  have e3 := e2 (ts.length == 1)
  have e4 : ts.length * (k + 2) = ts.length * k + ts.length * 2 := Nat.mul_add _ _ _
  rw [e1]
  omega
theorem shownAll_len : ∀ ds : List PyData, (PyData.shownAll ds).length = ds.length
  | [] => rfl
  | _ :: r => congrArg (· + 1) (shownAll_len r)
theorem shownAll_mem {k : Nat} : ∀ ds : List PyData, (∀ d ∈ ds, d.shown.length ≤ k) → ∀ t ∈ PyData.shownAll ds, t.length ≤ k
  | [], _, _, h => nomatch h
  | d :: r, hd, t, h => by
    rcases List.mem_cons.mp (show t ∈ d.shown :: PyData.shownAll r from h) with z | z
    · rw [z]
      exact hd d List.mem_cons_self
    · exact shownAll_mem r (fun x hx => hd x (List.mem_cons_of_mem _ hx)) t z
theorem all_shw {n k : Nat} : ∀ ds : List PyData, (∀ d ∈ ds, Shw n k d) → PyData.showableAll ds = true ∧ PyData.hasDictAll ds = false ∧ PyData.depthAll ds ≤ n
  | [], _ => ⟨rfl, rfl, Nat.zero_le _⟩
  | d :: r, h => by
    obtain ⟨h1, h2, h3⟩ := all_shw r fun x hx => h x (List.mem_cons_of_mem _ hx)
    have hd := h d List.mem_cons_self
    refine ⟨?_, ?_, ?_⟩
    · show (d.showable && PyData.showableAll r) = true
      rw [hd.sh, h1]
      rfl
    · show (d.hasDict || PyData.hasDictAll r) = false
      rw [hd.nd, h2]
      rfl
    · show max d.depth (PyData.depthAll r) ≤ n
      exact Nat.max_le.mpr ⟨hd.dp, h3⟩
theorem tup_shw {n k : Nat} {ds : List PyData} (h : ∀ d ∈ ds, Shw n k d) (hl : ds.length ≤ 3) : Shw (n + 1) (3 * (k + 2) + 3) (.tuple ds) := by
  obtain ⟨h1, h2, h3⟩ := all_shw ds h
  refine ⟨h1, h2, ?_, ?_⟩
  · show PyData.depthAll ds + 1 ≤ n + 1
    omega
  · show (tupleText (PyData.shownAll ds)).length ≤ _
    refine Nat.le_trans (tup_len _ k (shownAll_mem ds fun d hd => (h d hd).ln)) ?_
    rw [shownAll_len]
    exact Nat.add_le_add_right (Nat.mul_le_mul_right _ hl) _
theorem Shw.mono {n k n' k' : Nat} {d : PyData} (h : Shw n k d) (h1 : n ≤ n') (h2 : k ≤ k') : Shw n' k' d := ⟨h.sh, h.nd, Nat.le_trans h.dp h1, Nat.le_trans h.ln h2⟩
theorem list_data {P : V → PyData → Prop} {n k : Nat} : ∀ us : List V, (∀ u ∈ us, ∃ d, P u d ∧ Shw n k d) → ∃ ds, Paired P us ds ∧ ∀ d ∈ ds, Shw n k d
  | [], _ => ⟨[], .nil, fun _ z => nomatch z⟩
  | u :: r, h => by
    obtain ⟨d, h1, h2⟩ := h u List.mem_cons_self
    obtain ⟨ds, h3, h4⟩ := list_data r fun x hx => h x (List.mem_cons_of_mem _ hx)
    refine ⟨d :: ds, .cons h1 h3, fun x hx => ?_⟩
    rcases List.mem_cons.mp hx with z | z
    · rw [z]
      exact h2
    · exact h4 x z
theorem dpAll_of {K : PySem.W.Frag} {H : Hp} : ∀ {us : List V} {ds : List PyData}, Paired (Dp K H) us ds → DpAll K H us ds
  | _, _, .nil => .nil
  | _, _, .cons h t => .cons h (dpAll_of t)
theorem val_data {K : PySem.W.Frag} {H : Hp} {v : V} (h : ValAt H v) : ∃ d, Dp K H v d ∧ Shw 1 7000 d := by
  rcases h with h | ⟨t, xs, rfl, h1, h2, h3⟩
  · obtain ⟨d, h1, h2⟩ := pln_data h
    exact ⟨d, h1 K H, h2.mono (by decide) (by decide)⟩
  · obtain ⟨ds, h4, h5⟩ := list_data (P := Dp K H) (n := 0) (k := 2000) xs fun u hu => by
      obtain ⟨d, q1, q2⟩ := pln_data (h3 u hu)
      exact ⟨d, q1 K H, q2⟩
    have hl : ds.length ≤ 3 := by
      rw [← h4.length]
      exact h2
    exact ⟨.tuple ds, .tup (SqT.of h1) (dpAll_of h4), (tup_shw h5 hl).mono (by decide) (by decide)⟩
/-- a tuple of drawn values as data -/
theorem tup_data {K : PySem.W.Frag} {H : Hp} {us : List V} (h : ∀ u ∈ us, ValAt H u) (hl : us.length ≤ 3) : ∃ ds, DpAll K H us ds ∧ Shw 2 30000 (.tuple ds) := by
  obtain ⟨ds, h4, h5⟩ := list_data (P := Dp K H) (n := 1) (k := 7000) us fun u hu => val_data (h u hu)
  have hl : ds.length ≤ 3 := by
    rw [← h4.length]
    exact hl
  exact ⟨ds, dpAll_of h4, (tup_shw h5 hl).mono (by decide) (by decide)⟩
end Ow

/-! k01.1: the text by places -/
namespace Ow
open PySem PySem.Spec L2 NdefX
abbrev Pr : Program := PySem.Challenge.pw_owedrebuilds_k01_errors_made
def top (i : Nat) : Stmt := Pr.main.body.getD i (.Pass ⟨0, 0, 0, 0⟩)
abbrev i_BadSchema : Stmt := inClass (top 2) 0
abbrev i_BadStore : Stmt := inClass (top 3) 0
abbrev i_BadDeed : Stmt := inClass (top 4) 0
abbrev i_NoTable : Stmt := inClass (top 5) 0
abbrev i_NoColumn : Stmt := inClass (top 6) 0
abbrev i_NoRow : Stmt := inClass (top 7) 0
abbrev i_Taken : Stmt := inClass (top 8) 0
abbrev i_BadCell : Stmt := inClass (top 9) 0
abbrev i_Held : Stmt := inClass (top 10) 0
abbrev i_NotBulk : Stmt := inClass (top 11) 0
abbrev i_TooMany : Stmt := inClass (top 12) 0
abbrev i_BadWay : Stmt := inClass (top 13) 0
abbrev i_Mismatch : Stmt := inClass (top 14) 0
abbrev i_BadDocument : Stmt := inClass (top 15) 0
abbrev i_BadHook : Stmt := inClass (top 16) 0
abbrev i_BadBook : Stmt := inClass (top 17) 0
abbrev i_Crooked : Stmt := inClass (top 18) 0
abbrev i_BadLine : Stmt := inClass (top 19) 0
abbrev i_NoDocument : Stmt := inClass (top 20) 0
abbrev i_TooLong : Stmt := inClass (top 21) 0
abbrev i_Refused : Stmt := inClass (top 22) 0
abbrev i_Failed : Stmt := inClass (top 23) 0
abbrev i_NotKept : Stmt := inClass (top 24) 0
abbrev s_law_pool : Stmt := top 26
abbrev s_law_draw : Stmt := top 27
abbrev s_law_of : Stmt := top 28
abbrev s_law_plain : Stmt := top 29
abbrev s_law_value : Stmt := top 30
abbrev s_law_kinds : Stmt := top 31
abbrev s_law_ats : Stmt := top 32
abbrev s_law_ones : Stmt := top 33
abbrev s_law_twos : Stmt := top 34
abbrev s_law_threes : Stmt := top 35
abbrev s_law : Stmt := top 36
theorem ib_BadSchema (cl : List (Str × Addr)) (c : Addr) : IniBody Pr (nfOf "BadSchema.__init__" i_BadSchema cl c) [("at" : Str)] where
  sc := show NScope (nsOf [("at" : Str)]) (psOf [("at" : Str)]) clsN (defScope i_BadSchema) from nscope_by (by decide +kernel)
  sup := show (defScope i_BadSchema).names.lookup ("super" : Str) = some .globalImplicit from by decide +kernel
  top := by decide +kernel
  par := ⟨_, rfl, rfl⟩
  dbg := by decide +kernel
  int := fun _ _ => rfl
  body := ⟨_, _, _, _, _, _, _, _, _, rfl, .cons .nil, fun _ _ => by rfl⟩
theorem ib_BadStore (cl : List (Str × Addr)) (c : Addr) : IniBody Pr (nfOf "BadStore.__init__" i_BadStore cl c) [("at" : Str)] where
  sc := show NScope (nsOf [("at" : Str)]) (psOf [("at" : Str)]) clsN (defScope i_BadStore) from nscope_by (by decide +kernel)
  sup := show (defScope i_BadStore).names.lookup ("super" : Str) = some .globalImplicit from by decide +kernel
  top := by decide +kernel
  par := ⟨_, rfl, rfl⟩
  dbg := by decide +kernel
  int := fun _ _ => rfl
  body := ⟨_, _, _, _, _, _, _, _, _, rfl, .cons .nil, fun _ _ => by rfl⟩
theorem ib_BadDeed (cl : List (Str × Addr)) (c : Addr) : IniBody Pr (nfOf "BadDeed.__init__" i_BadDeed cl c) [("deed" : Str)] where
  sc := show NScope (nsOf [("deed" : Str)]) (psOf [("deed" : Str)]) clsN (defScope i_BadDeed) from nscope_by (by decide +kernel)
  sup := show (defScope i_BadDeed).names.lookup ("super" : Str) = some .globalImplicit from by decide +kernel
  top := by decide +kernel
  par := ⟨_, rfl, rfl⟩
  dbg := by decide +kernel
  int := fun _ _ => rfl
  body := ⟨_, _, _, _, _, _, _, _, _, rfl, .cons .nil, fun _ _ => by rfl⟩
theorem ib_NoTable (cl : List (Str × Addr)) (c : Addr) : IniBody Pr (nfOf "NoTable.__init__" i_NoTable cl c) [("table" : Str)] where
  sc := show NScope (nsOf [("table" : Str)]) (psOf [("table" : Str)]) clsN (defScope i_NoTable) from nscope_by (by decide +kernel)
  sup := show (defScope i_NoTable).names.lookup ("super" : Str) = some .globalImplicit from by decide +kernel
  top := by decide +kernel
  par := ⟨_, rfl, rfl⟩
  dbg := by decide +kernel
  int := fun _ _ => rfl
  body := ⟨_, _, _, _, _, _, _, _, _, rfl, .cons .nil, fun _ _ => by rfl⟩
theorem ib_NoColumn (cl : List (Str × Addr)) (c : Addr) : IniBody Pr (nfOf "NoColumn.__init__" i_NoColumn cl c) [("table" : Str), ("column" : Str)] where
  sc := show NScope (nsOf [("table" : Str), ("column" : Str)]) (psOf [("table" : Str), ("column" : Str)]) clsN (defScope i_NoColumn) from nscope_by (by decide +kernel)
  sup := show (defScope i_NoColumn).names.lookup ("super" : Str) = some .globalImplicit from by decide +kernel
  top := by decide +kernel
  par := ⟨_, rfl, rfl⟩
  dbg := by decide +kernel
  int := fun _ _ => rfl
  body := ⟨_, _, _, _, _, _, _, _, _, rfl, .cons (.cons .nil), fun _ _ => by rfl⟩
theorem ib_NoRow (cl : List (Str × Addr)) (c : Addr) : IniBody Pr (nfOf "NoRow.__init__" i_NoRow cl c) [("table" : Str), ("key" : Str)] where
  sc := show NScope (nsOf [("table" : Str), ("key" : Str)]) (psOf [("table" : Str), ("key" : Str)]) clsN (defScope i_NoRow) from nscope_by (by decide +kernel)
  sup := show (defScope i_NoRow).names.lookup ("super" : Str) = some .globalImplicit from by decide +kernel
  top := by decide +kernel
  par := ⟨_, rfl, rfl⟩
  dbg := by decide +kernel
  int := fun _ _ => rfl
  body := ⟨_, _, _, _, _, _, _, _, _, rfl, .cons (.cons .nil), fun _ _ => by rfl⟩
theorem ib_Taken (cl : List (Str × Addr)) (c : Addr) : IniBody Pr (nfOf "Taken.__init__" i_Taken cl c) [("table" : Str), ("key" : Str)] where
  sc := show NScope (nsOf [("table" : Str), ("key" : Str)]) (psOf [("table" : Str), ("key" : Str)]) clsN (defScope i_Taken) from nscope_by (by decide +kernel)
  sup := show (defScope i_Taken).names.lookup ("super" : Str) = some .globalImplicit from by decide +kernel
  top := by decide +kernel
  par := ⟨_, rfl, rfl⟩
  dbg := by decide +kernel
  int := fun _ _ => rfl
  body := ⟨_, _, _, _, _, _, _, _, _, rfl, .cons (.cons .nil), fun _ _ => by rfl⟩
theorem ib_BadCell (cl : List (Str × Addr)) (c : Addr) : IniBody Pr (nfOf "BadCell.__init__" i_BadCell cl c) [("table" : Str), ("column" : Str), ("cell" : Str)] where
  sc := show NScope (nsOf [("table" : Str), ("column" : Str), ("cell" : Str)]) (psOf [("table" : Str), ("column" : Str), ("cell" : Str)]) clsN (defScope i_BadCell) from nscope_by (by decide +kernel)
  sup := show (defScope i_BadCell).names.lookup ("super" : Str) = some .globalImplicit from by decide +kernel
  top := by decide +kernel
  par := ⟨_, rfl, rfl⟩
  dbg := by decide +kernel
  int := fun _ _ => rfl
  body := ⟨_, _, _, _, _, _, _, _, _, rfl, .cons (.cons (.cons .nil)), fun _ _ => by rfl⟩
theorem ib_Held (cl : List (Str × Addr)) (c : Addr) : IniBody Pr (nfOf "Held.__init__" i_Held cl c) [("table" : Str), ("key" : Str)] where
  sc := show NScope (nsOf [("table" : Str), ("key" : Str)]) (psOf [("table" : Str), ("key" : Str)]) clsN (defScope i_Held) from nscope_by (by decide +kernel)
  sup := show (defScope i_Held).names.lookup ("super" : Str) = some .globalImplicit from by decide +kernel
  top := by decide +kernel
  par := ⟨_, rfl, rfl⟩
  dbg := by decide +kernel
  int := fun _ _ => rfl
  body := ⟨_, _, _, _, _, _, _, _, _, rfl, .cons (.cons .nil), fun _ _ => by rfl⟩
theorem ib_NotBulk (cl : List (Str × Addr)) (c : Addr) : IniBody Pr (nfOf "NotBulk.__init__" i_NotBulk cl c) [("table" : Str), ("column" : Str)] where
  sc := show NScope (nsOf [("table" : Str), ("column" : Str)]) (psOf [("table" : Str), ("column" : Str)]) clsN (defScope i_NotBulk) from nscope_by (by decide +kernel)
  sup := show (defScope i_NotBulk).names.lookup ("super" : Str) = some .globalImplicit from by decide +kernel
  top := by decide +kernel
  par := ⟨_, rfl, rfl⟩
  dbg := by decide +kernel
  int := fun _ _ => rfl
  body := ⟨_, _, _, _, _, _, _, _, _, rfl, .cons (.cons .nil), fun _ _ => by rfl⟩
theorem ib_TooMany (cl : List (Str × Addr)) (c : Addr) : IniBody Pr (nfOf "TooMany.__init__" i_TooMany cl c) [("what" : Str)] where
  sc := show NScope (nsOf [("what" : Str)]) (psOf [("what" : Str)]) clsN (defScope i_TooMany) from nscope_by (by decide +kernel)
  sup := show (defScope i_TooMany).names.lookup ("super" : Str) = some .globalImplicit from by decide +kernel
  top := by decide +kernel
  par := ⟨_, rfl, rfl⟩
  dbg := by decide +kernel
  int := fun _ _ => rfl
  body := ⟨_, _, _, _, _, _, _, _, _, rfl, .cons .nil, fun _ _ => by rfl⟩
theorem ib_BadWay (cl : List (Str × Addr)) (c : Addr) : IniBody Pr (nfOf "BadWay.__init__" i_BadWay cl c) [("at" : Str)] where
  sc := show NScope (nsOf [("at" : Str)]) (psOf [("at" : Str)]) clsN (defScope i_BadWay) from nscope_by (by decide +kernel)
  sup := show (defScope i_BadWay).names.lookup ("super" : Str) = some .globalImplicit from by decide +kernel
  top := by decide +kernel
  par := ⟨_, rfl, rfl⟩
  dbg := by decide +kernel
  int := fun _ _ => rfl
  body := ⟨_, _, _, _, _, _, _, _, _, rfl, .cons .nil, fun _ _ => by rfl⟩
theorem ib_Mismatch (cl : List (Str × Addr)) (c : Addr) : IniBody Pr (nfOf "Mismatch.__init__" i_Mismatch cl c) [("first" : Str), ("second" : Str)] where
  sc := show NScope (nsOf [("first" : Str), ("second" : Str)]) (psOf [("first" : Str), ("second" : Str)]) clsN (defScope i_Mismatch) from nscope_by (by decide +kernel)
  sup := show (defScope i_Mismatch).names.lookup ("super" : Str) = some .globalImplicit from by decide +kernel
  top := by decide +kernel
  par := ⟨_, rfl, rfl⟩
  dbg := by decide +kernel
  int := fun _ _ => rfl
  body := ⟨_, _, _, _, _, _, _, _, _, rfl, .cons (.cons .nil), fun _ _ => by rfl⟩
theorem ib_BadDocument (cl : List (Str × Addr)) (c : Addr) : IniBody Pr (nfOf "BadDocument.__init__" i_BadDocument cl c) [("at" : Str)] where
  sc := show NScope (nsOf [("at" : Str)]) (psOf [("at" : Str)]) clsN (defScope i_BadDocument) from nscope_by (by decide +kernel)
  sup := show (defScope i_BadDocument).names.lookup ("super" : Str) = some .globalImplicit from by decide +kernel
  top := by decide +kernel
  par := ⟨_, rfl, rfl⟩
  dbg := by decide +kernel
  int := fun _ _ => rfl
  body := ⟨_, _, _, _, _, _, _, _, _, rfl, .cons .nil, fun _ _ => by rfl⟩
theorem ib_BadHook (cl : List (Str × Addr)) (c : Addr) : IniBody Pr (nfOf "BadHook.__init__" i_BadHook cl c) [("what" : Str)] where
  sc := show NScope (nsOf [("what" : Str)]) (psOf [("what" : Str)]) clsN (defScope i_BadHook) from nscope_by (by decide +kernel)
  sup := show (defScope i_BadHook).names.lookup ("super" : Str) = some .globalImplicit from by decide +kernel
  top := by decide +kernel
  par := ⟨_, rfl, rfl⟩
  dbg := by decide +kernel
  int := fun _ _ => rfl
  body := ⟨_, _, _, _, _, _, _, _, _, rfl, .cons .nil, fun _ _ => by rfl⟩
theorem ib_BadBook (cl : List (Str × Addr)) (c : Addr) : IniBody Pr (nfOf "BadBook.__init__" i_BadBook cl c) [("what" : Str), ("at" : Str)] where
  sc := show NScope (nsOf [("what" : Str), ("at" : Str)]) (psOf [("what" : Str), ("at" : Str)]) clsN (defScope i_BadBook) from nscope_by (by decide +kernel)
  sup := show (defScope i_BadBook).names.lookup ("super" : Str) = some .globalImplicit from by decide +kernel
  top := by decide +kernel
  par := ⟨_, rfl, rfl⟩
  dbg := by decide +kernel
  int := fun _ _ => rfl
  body := ⟨_, _, _, _, _, _, _, _, _, rfl, .cons (.cons .nil), fun _ _ => by rfl⟩
theorem ib_Crooked (cl : List (Str × Addr)) (c : Addr) : IniBody Pr (nfOf "Crooked.__init__" i_Crooked cl c) [("where" : Str)] where
  sc := show NScope (nsOf [("where" : Str)]) (psOf [("where" : Str)]) clsN (defScope i_Crooked) from nscope_by (by decide +kernel)
  sup := show (defScope i_Crooked).names.lookup ("super" : Str) = some .globalImplicit from by decide +kernel
  top := by decide +kernel
  par := ⟨_, rfl, rfl⟩
  dbg := by decide +kernel
  int := fun _ _ => rfl
  body := ⟨_, _, _, _, _, _, _, _, _, rfl, .cons .nil, fun _ _ => by rfl⟩
theorem ib_BadLine (cl : List (Str × Addr)) (c : Addr) : IniBody Pr (nfOf "BadLine.__init__" i_BadLine cl c) [("at" : Str)] where
  sc := show NScope (nsOf [("at" : Str)]) (psOf [("at" : Str)]) clsN (defScope i_BadLine) from nscope_by (by decide +kernel)
  sup := show (defScope i_BadLine).names.lookup ("super" : Str) = some .globalImplicit from by decide +kernel
  top := by decide +kernel
  par := ⟨_, rfl, rfl⟩
  dbg := by decide +kernel
  int := fun _ _ => rfl
  body := ⟨_, _, _, _, _, _, _, _, _, rfl, .cons .nil, fun _ _ => by rfl⟩
theorem ib_NoDocument (cl : List (Str × Addr)) (c : Addr) : IniBody Pr (nfOf "NoDocument.__init__" i_NoDocument cl c) [("name" : Str), ("key" : Str)] where
  sc := show NScope (nsOf [("name" : Str), ("key" : Str)]) (psOf [("name" : Str), ("key" : Str)]) clsN (defScope i_NoDocument) from nscope_by (by decide +kernel)
  sup := show (defScope i_NoDocument).names.lookup ("super" : Str) = some .globalImplicit from by decide +kernel
  top := by decide +kernel
  par := ⟨_, rfl, rfl⟩
  dbg := by decide +kernel
  int := fun _ _ => rfl
  body := ⟨_, _, _, _, _, _, _, _, _, rfl, .cons (.cons .nil), fun _ _ => by rfl⟩
theorem ib_TooLong (cl : List (Str × Addr)) (c : Addr) : IniBody Pr (nfOf "TooLong.__init__" i_TooLong cl c) [("name" : Str), ("key" : Str), ("most" : Str)] where
  sc := show NScope (nsOf [("name" : Str), ("key" : Str), ("most" : Str)]) (psOf [("name" : Str), ("key" : Str), ("most" : Str)]) clsN (defScope i_TooLong) from nscope_by (by decide +kernel)
  sup := show (defScope i_TooLong).names.lookup ("super" : Str) = some .globalImplicit from by decide +kernel
  top := by decide +kernel
  par := ⟨_, rfl, rfl⟩
  dbg := by decide +kernel
  int := fun _ _ => rfl
  body := ⟨_, _, _, _, _, _, _, _, _, rfl, .cons (.cons (.cons .nil)), fun _ _ => by rfl⟩
theorem ib_Refused (cl : List (Str × Addr)) (c : Addr) : IniBody Pr (nfOf "Refused.__init__" i_Refused cl c) [("at" : Str), ("why" : Str)] where
  sc := show NScope (nsOf [("at" : Str), ("why" : Str)]) (psOf [("at" : Str), ("why" : Str)]) clsN (defScope i_Refused) from nscope_by (by decide +kernel)
  sup := show (defScope i_Refused).names.lookup ("super" : Str) = some .globalImplicit from by decide +kernel
  top := by decide +kernel
  par := ⟨_, rfl, rfl⟩
  dbg := by decide +kernel
  int := fun _ _ => rfl
  body := ⟨_, _, _, _, _, _, _, _, _, rfl, .cons (.cons .nil), fun _ _ => by rfl⟩
theorem ib_Failed (cl : List (Str × Addr)) (c : Addr) : IniBody Pr (nfOf "Failed.__init__" i_Failed cl c) [("at" : Str), ("why" : Str)] where
  sc := show NScope (nsOf [("at" : Str), ("why" : Str)]) (psOf [("at" : Str), ("why" : Str)]) clsN (defScope i_Failed) from nscope_by (by decide +kernel)
  sup := show (defScope i_Failed).names.lookup ("super" : Str) = some .globalImplicit from by decide +kernel
  top := by decide +kernel
  par := ⟨_, rfl, rfl⟩
  dbg := by decide +kernel
  int := fun _ _ => rfl
  body := ⟨_, _, _, _, _, _, _, _, _, rfl, .cons (.cons .nil), fun _ _ => by rfl⟩
theorem ib_NotKept (cl : List (Str × Addr)) (c : Addr) : IniBody Pr (nfOf "NotKept.__init__" i_NotKept cl c) [] where
  sc := show NScope (nsOf []) (psOf []) clsN (defScope i_NotKept) from nscope_by (by decide +kernel)
  sup := show (defScope i_NotKept).names.lookup ("super" : Str) = some .globalImplicit from by decide +kernel
  top := by decide +kernel
  par := ⟨_, rfl, rfl⟩
  dbg := by decide +kernel
  int := fun _ _ => rfl
  body := ⟨_, _, _, _, _, _, _, _, _, rfl, IsAsg.nil, fun _ _ => by rfl⟩
end Ow

/-! k01.2: what the top has left -/
namespace Ow
open PySem PySem.Spec L2 NdefX
def fa : List He.Fa := [.free "len", .free "abs", .free "int", .free "range", .free "max", .free "min", .free "isinstance", .free "tuple", .free "repr", .free "ValueError", .free "super"]
def fa2 : List He.Fa := [.glo "_law_pool", .glo "_law_draw", .glo "_law_of", .glo "_law_plain", .glo "_law_value", .glo "_law_kinds", .glo "_law_ats", .glo "_law_ones", .glo "_law_twos", .glo "_law_threes", .glo "law", .glo "OwedError"]
def d_law_pool : He.DefD := ⟨("_law_pool", none), "_law_pool", "_law_pool", defArgs s_law_pool, defBody s_law_pool, defScope s_law_pool, [], []⟩
def d_law_draw : He.DefD := ⟨("_law_draw", none), "_law_draw", "_law_draw", defArgs s_law_draw, defBody s_law_draw, defScope s_law_draw, [], []⟩
def d_law_of : He.DefD := ⟨("_law_of", none), "_law_of", "_law_of", defArgs s_law_of, defBody s_law_of, defScope s_law_of, [], []⟩
def d_law_plain : He.DefD := ⟨("_law_plain", none), "_law_plain", "_law_plain", defArgs s_law_plain, defBody s_law_plain, defScope s_law_plain, [], []⟩
def d_law_value : He.DefD := ⟨("_law_value", none), "_law_value", "_law_value", defArgs s_law_value, defBody s_law_value, defScope s_law_value, [], []⟩
def d_law_kinds : He.DefD := ⟨("_law_kinds", none), "_law_kinds", "_law_kinds", defArgs s_law_kinds, defBody s_law_kinds, defScope s_law_kinds, [], []⟩
def d_law_ats : He.DefD := ⟨("_law_ats", none), "_law_ats", "_law_ats", defArgs s_law_ats, defBody s_law_ats, defScope s_law_ats, [], []⟩
def d_law_ones : He.DefD := ⟨("_law_ones", none), "_law_ones", "_law_ones", defArgs s_law_ones, defBody s_law_ones, defScope s_law_ones, [], []⟩
def d_law_twos : He.DefD := ⟨("_law_twos", none), "_law_twos", "_law_twos", defArgs s_law_twos, defBody s_law_twos, defScope s_law_twos, [], []⟩
def d_law_threes : He.DefD := ⟨("_law_threes", none), "_law_threes", "_law_threes", defArgs s_law_threes, defBody s_law_threes, defScope s_law_threes, [], []⟩
def d_law : He.DefD := ⟨("law", none), "law", "law", defArgs s_law, defBody s_law, defScope s_law, [], []⟩
def fn : List He.DefD := [d_law_pool, d_law_draw, d_law_of, d_law_plain, d_law_value, d_law_kinds, d_law_ats, d_law_ones, d_law_twos, d_law_threes, d_law]
def m_BadSchema : MthD := ⟨"BadSchema", "__init__", "BadSchema.__init__", i_BadSchema⟩
def m_BadStore : MthD := ⟨"BadStore", "__init__", "BadStore.__init__", i_BadStore⟩
def m_BadDeed : MthD := ⟨"BadDeed", "__init__", "BadDeed.__init__", i_BadDeed⟩
def m_NoTable : MthD := ⟨"NoTable", "__init__", "NoTable.__init__", i_NoTable⟩
def m_NoColumn : MthD := ⟨"NoColumn", "__init__", "NoColumn.__init__", i_NoColumn⟩
def m_NoRow : MthD := ⟨"NoRow", "__init__", "NoRow.__init__", i_NoRow⟩
def m_Taken : MthD := ⟨"Taken", "__init__", "Taken.__init__", i_Taken⟩
def m_BadCell : MthD := ⟨"BadCell", "__init__", "BadCell.__init__", i_BadCell⟩
def m_Held : MthD := ⟨"Held", "__init__", "Held.__init__", i_Held⟩
def m_NotBulk : MthD := ⟨"NotBulk", "__init__", "NotBulk.__init__", i_NotBulk⟩
def m_TooMany : MthD := ⟨"TooMany", "__init__", "TooMany.__init__", i_TooMany⟩
def m_BadWay : MthD := ⟨"BadWay", "__init__", "BadWay.__init__", i_BadWay⟩
def m_Mismatch : MthD := ⟨"Mismatch", "__init__", "Mismatch.__init__", i_Mismatch⟩
def m_BadDocument : MthD := ⟨"BadDocument", "__init__", "BadDocument.__init__", i_BadDocument⟩
def m_BadHook : MthD := ⟨"BadHook", "__init__", "BadHook.__init__", i_BadHook⟩
def m_BadBook : MthD := ⟨"BadBook", "__init__", "BadBook.__init__", i_BadBook⟩
def m_Crooked : MthD := ⟨"Crooked", "__init__", "Crooked.__init__", i_Crooked⟩
def m_BadLine : MthD := ⟨"BadLine", "__init__", "BadLine.__init__", i_BadLine⟩
def m_NoDocument : MthD := ⟨"NoDocument", "__init__", "NoDocument.__init__", i_NoDocument⟩
def m_TooLong : MthD := ⟨"TooLong", "__init__", "TooLong.__init__", i_TooLong⟩
def m_Refused : MthD := ⟨"Refused", "__init__", "Refused.__init__", i_Refused⟩
def m_Failed : MthD := ⟨"Failed", "__init__", "Failed.__init__", i_Failed⟩
def m_NotKept : MthD := ⟨"NotKept", "__init__", "NotKept.__init__", i_NotKept⟩
def mt : List MthD := [m_BadSchema, m_BadStore, m_BadDeed, m_NoTable, m_NoColumn, m_NoRow, m_Taken, m_BadCell, m_Held, m_NotBulk, m_TooMany, m_BadWay, m_Mismatch, m_BadDocument, m_BadHook, m_BadBook, m_Crooked, m_BadLine, m_NoDocument, m_TooLong, m_Refused, m_Failed, m_NotKept]
def cs1 : List (Str × List Str) := [(("BadSchema" : Str), [("at" : Str)]), (("BadStore" : Str), [("at" : Str)]), (("BadDeed" : Str), [("deed" : Str)]), (("NoTable" : Str), [("table" : Str)]), (("NoColumn" : Str), [("table" : Str), ("column" : Str)]), (("NoRow" : Str), [("table" : Str), ("key" : Str)]), (("Taken" : Str), [("table" : Str), ("key" : Str)]), (("BadCell" : Str), [("table" : Str), ("column" : Str), ("cell" : Str)]), (("Held" : Str), [("table" : Str), ("key" : Str)]), (("NotBulk" : Str), [("table" : Str), ("column" : Str)]), (("TooMany" : Str), [("what" : Str)]), (("BadWay" : Str), [("at" : Str)])]
def cs2 : List (Str × List Str) := [(("Mismatch" : Str), [("first" : Str), ("second" : Str)]), (("BadDocument" : Str), [("at" : Str)]), (("BadHook" : Str), [("what" : Str)]), (("BadBook" : Str), [("what" : Str), ("at" : Str)]), (("Crooked" : Str), [("where" : Str)]), (("BadLine" : Str), [("at" : Str)]), (("NoDocument" : Str), [("name" : Str), ("key" : Str)]), (("TooLong" : Str), [("name" : Str), ("key" : Str), ("most" : Str)]), (("Refused" : Str), [("at" : Str), ("why" : Str)]), (("Failed" : Str), [("at" : Str), ("why" : Str)]), (("NotKept" : Str), [])]
def cs : List (Str × List Str) := cs1 ++ cs2
def kitB (K : PySem.W.Frag) : Bool := cs.all fun p => bEq (PySem.W.kitOne K (.ref (He.ga K p.1)) (.ref (He.ga K "OwedError"))) (some true) && (bEq (PySem.W.kitOne K (.ref (He.ga K p.1)) (.type "ValueError")) (some true) && cs.all fun q => bEq (PySem.W.kitOne K (.ref (He.ga K p.1)) (.ref (He.ga K q.1))) (some (decide (p.1 = q.1))))
def exK (K : PySem.W.Frag) : Bool := excB0 K && ((cs.all fun p => excB Pr.main.file K p.1 p.2) && kitB K)
abbrev R : PySem.W.OpenRow := PySem.W.OpenLaw.row PySem.Challenge.rw_owedrebuilds_k01_errors_made
abbrev hk : PySem.W.Hook := hookO 5 (fa ++ fa2) fn mt exK
def ob (s : PySem.W.SharedT) : AlO := obsO 5 (fa ++ fa2) fn mt exK (HandSHeadRun.getT s)
theorem ob_eq (s : PySem.W.SharedT) : ob s = hk.obs s.abs := obsO_eq (HandSHeadRun.getT_eq s)
def n1 : List Str := ["OwedError", "BadSchema", "BadStore", "BadDeed", "NoTable", "NoColumn", "NoRow", "Taken", "BadCell", "Held", "NotBulk", "TooMany", "BadWay", "Mismatch", "BadDocument"]
def n2 : List Str := ["BadHook", "BadBook", "Crooked", "BadLine", "NoDocument", "TooLong", "Refused", "Failed", "NotKept", "_law_pool", "_law_draw", "_law_of", "_law_plain", "_law_value", "_law_kinds"]
def n3 : List Str := ["_law_ats", "_law_ones", "_law_twos", "_law_threes"]
def nms : List Str := n1 ++ (n2 ++ n3)
theorem run (w : World) : HandSHeadRun.RunEq R (PySem.W.view R.prog [36]) hk ob 100000 nms w := by
  intro os
  kernel_rfl
end Ow

/-! k01.3: draws -/
namespace Ow
open PySem PySem.Spec L2
theorem pool_mix (z : Int) {i : Nat} (h : i ≤ 1000) : 0 ≤ z % 618970019642690137449562111 * 5 + 6271 * (i : Int) + 41 ∧ z % 618970019642690137449562111 * 5 + 6271 * (i : Int) + 41 < 2 ^ 100 := by
  have h1 := Int.emod_nonneg z (show (618970019642690137449562111 : Int) ≠ 0 by decide)
  have h2 := Int.emod_lt_of_pos z (show (0 : Int) < 618970019642690137449562111 by decide)
  have : (2 : Int) ^ 100 = 1267650600228229401496703205376 := by decide
  omega
theorem abs_nn (z : Int) : 0 ≤ (if z < 0 then -z else z) := by split <;> omega
section
variable {P : Program} {w : World} {K : PySem.W.Frag} {mg : Str → Option Value} {base : Heap}
theorem sc_law_pool : FnScope [("_law_script" : Str), ("_law_place" : Str), ("_law_number" : Str), ("_law_digits" : Str)] [("_law_script" : Str), ("_law_place" : Str)] (defScope s_law_pool) := ⟨rfl, rfl, rfl, by decide +kernel, rfl, by decide +kernel, by decide +kernel⟩
theorem ok_pool (D : TopD K mg "_law_pool" s_law_pool) (T : Blt mg) : FnAt P w K mg base "_law_pool" [("_law_script" : Str), ("_law_place" : Str)] 1 (spPool K) := by
  refine fn_at D sc_law_pool (fun _ _ _ _ _ _ us hl => match us, hl with | [_, _], _ => rfl) (fun vs H Q E h => ?_) (fun f cdv A outer s H vs Q E hr h => ?_)
  · obtain ⟨s, ns, i, rfl, _⟩ := h
    rfl
  · obtain ⟨a, ns, i, rfl, hS, hi, k⟩ := h
    refine ⟨_, (pss_cons (ps_set (i := 2) sc_law_pool.nd rfl (Or.inl rfl) (pe_ifExp (pt_cmpR op_lt (pv 1) (pe_callB call_len_seq (by rfl) T.len PySem.boot_len (pa_cons (pv 0) pa_nil)) (nomark _)) (pe_ix ix_list (pv 0) (pv 1) (fun _ _ => rfl)) pe_int))
      (pss_cons (ps_set (i := 3) sc_law_pool.nd rfl (Or.inl rfl) (pe_ifExp (pt_cmpR op_ge (pe_callB call_abs (by rfl) T.abs (by decide +kernel) (pa_cons (pv 2) pa_nil)) (pe_op op_powW pe_int pe_int) (nomark _)) (pe_callB call_abs (by rfl) T.abs (by decide +kernel) (pa_cons (pv 2) pa_nil)) pe_int))
      (pss_one (ps_ret (pe_lst (pa_cons (pv 3) (pa_cons (pe_op op_add (pe_op op_add (pe_op op_mul (pe_op op_mod (pe_callTy call_int1 (by rfl) T.int (by decide +kernel) (pa_cons (pv 2) pa_nil)) pe_int) pe_int) (pe_op op_mul pe_int (pv 1))) pe_int) (pa_cons pe_int pa_nil)))))))), ?_⟩
    refine ⟨_, rfl, _, rfl, a, _, rfl, .inl hS, _, _, rfl, rfl, _, rfl, ?_⟩
    refine ite2 (fun h1 => ?_) (fun h1 => ?_)
    · have h1 : (i : Int) < ((ns.map V.int).length : Int) := of_decide_eq_true h1
      have hi2 : i < ns.length := by
        rw [List.length_map] at h1
        omega
      refine ⟨_, rfl, _, rfl, a, _, _, .int ns[i], rfl, rfl, hS, atI_nat (by rw [List.getElem?_map, List.getElem?_eq_getElem hi2]; rfl), ?_⟩
      refine ⟨_, rfl, _, rfl, _, _, rfl, rfl, powW (n := 4) (by decide) (by decide) (by decide) (by decide), _, _, rfl, rfl, _, rfl, ?_⟩
      refine ite2 (fun h2 => ?_) (fun h2 => ?_)
      · refine ⟨_, rfl, _, rfl, ?_⟩
        refine ⟨_, rfl, _, rfl, .inl ⟨_, rfl, _, _, rfl, rfl, (by show (0 : Int) < 618970019642690137449562111; decide), _, _, rfl, rfl, .inr ⟨by decide, by decide⟩, _, rfl, _, _, rfl, rfl, .inl ⟨by decide, by decide⟩, _, _, rfl, rfl, _, _, rfl, rfl, ?_⟩⟩
        refine ⟨by show 3 ≤ sizeLine; decide, fun p hp => k _ p hp (fun b o e => by rw [upd_ne (ne_of_none e hp)]; exact e) ⟨_, _, _, upd_same, ?_, (pool_mix _ hi).1, (pool_mix _ hi).2, Int.le_refl _, Int.le_refl _⟩⟩
        exact abs_nn _
      · skip
        refine ⟨_, rfl, _, rfl, .inl ⟨_, rfl, _, _, rfl, rfl, (by show (0 : Int) < 618970019642690137449562111; decide), _, _, rfl, rfl, .inr ⟨by decide, by decide⟩, _, rfl, _, _, rfl, rfl, .inl ⟨by decide, by decide⟩, _, _, rfl, rfl, _, _, rfl, rfl, ?_⟩⟩
        refine ⟨by show 3 ≤ sizeLine; decide, fun p hp => k _ p hp (fun b o e => by rw [upd_ne (ne_of_none e hp)]; exact e) ⟨_, _, _, upd_same, ?_, (pool_mix _ hi).1, (pool_mix _ hi).2, Int.le_refl _, Int.le_refl _⟩⟩
        exact Int.le_refl _
    · skip
      refine ⟨_, rfl, _, rfl, _, _, rfl, rfl, powW (n := 4) (by decide) (by decide) (by decide) (by decide), _, _, rfl, rfl, _, rfl, ?_⟩
      refine ite2 (fun h2 => ?_) (fun h2 => ?_)
      · refine ⟨_, rfl, _, rfl, ?_⟩
        refine ⟨_, rfl, _, rfl, .inl ⟨_, rfl, _, _, rfl, rfl, (by show (0 : Int) < 618970019642690137449562111; decide), _, _, rfl, rfl, .inr ⟨by decide, by decide⟩, _, rfl, _, _, rfl, rfl, .inl ⟨by decide, by decide⟩, _, _, rfl, rfl, _, _, rfl, rfl, ?_⟩⟩
        refine ⟨by show 3 ≤ sizeLine; decide, fun p hp => k _ p hp (fun b o e => by rw [upd_ne (ne_of_none e hp)]; exact e) ⟨_, _, _, upd_same, ?_, (pool_mix _ hi).1, (pool_mix _ hi).2, Int.le_refl _, Int.le_refl _⟩⟩
        exact abs_nn _
      · skip
        refine ⟨_, rfl, _, rfl, .inl ⟨_, rfl, _, _, rfl, rfl, (by show (0 : Int) < 618970019642690137449562111; decide), _, _, rfl, rfl, .inr ⟨by decide, by decide⟩, _, rfl, _, _, rfl, rfl, .inl ⟨by decide, by decide⟩, _, _, rfl, rfl, _, _, rfl, rfl, ?_⟩⟩
        refine ⟨by show 3 ≤ sizeLine; decide, fun p hp => k _ p hp (fun b o e => by rw [upd_ne (ne_of_none e hp)]; exact e) ⟨_, _, _, upd_same, ?_, (pool_mix _ hi).1, (pool_mix _ hi).2, Int.le_refl _, Int.le_refl _⟩⟩
        exact Int.le_refl _
theorem sc_law_draw : FnScope [("_law_pool_here" : Str), ("_law_many" : Str), ("_law_digit" : Str), ("_law_step" : Str), ("_law_mixed" : Str)] [("_law_pool_here" : Str), ("_law_many" : Str)] (defScope s_law_draw) := ⟨rfl, rfl, rfl, by decide +kernel, rfl, by decide +kernel, by decide +kernel⟩
theorem ok_draw (D : TopD K mg "_law_draw" s_law_draw) (T : Blt mg) : FnAt P w K mg base "_law_draw" [("_law_pool_here" : Str), ("_law_many" : Str)] 1 spDraw := by
  refine fn_at D sc_law_draw (fun _ _ _ _ _ _ us hl => match us, hl with | [_, _], _ => rfl) (fun vs H Q E h => ?_) (fun f cdv A outer s H vs Q E hr h => ?_)
  · obtain ⟨p, n, m, rfl, _⟩ := h
    rfl
  · obtain ⟨p, n, m, rfl, ⟨a, b, c, hp, ha, hb, hb2, hc, hcn⟩, hn, hm, hm2, k⟩ := h
    refine ⟨_, (pss_cons (ps_if (pt_cmpR op_gt (pe_ix ix_list (pv 0) pe_int (fun _ _ => rfl)) pe_int (nomark _))
      (pss_cons (ps_set (i := 2) sc_law_draw.nd rfl (Or.inl rfl) (pe_op op_mod (pe_callTy call_int1 (by rfl) T.int (by decide +kernel) (pa_cons (pe_ix ix_list (pv 0) pe_int (fun _ _ => rfl)) pa_nil)) (pv 1)))
      (pss_cons (ps_asg (pe_op op_fdivW (pe_ix ix_list (pv 0) pe_int (fun _ _ => rfl)) (pv 1)) (pg_sub (pv 0) pe_int set_list))
      (pss_one (ps_ret (pv 2)))))
      pss_nil)
      (pss_cons (ps_asg (pe_op op_add (pe_ix ix_list (pv 0) pe_int (fun _ _ => rfl)) pe_int) (pg_sub (pv 0) pe_int set_list))
      (pss_cons (ps_set (i := 3) sc_law_draw.nd rfl (Or.inl rfl) (pe_op op_add (pe_ix ix_list (pv 0) pe_int (fun _ _ => rfl)) (pe_op op_mul pe_int (pe_ix ix_list (pv 0) pe_int (fun _ _ => rfl)))))
      (pss_cons (ps_set (i := 4) sc_law_draw.nd rfl (Or.inl rfl) (pe_op op_mod (pe_callTy call_int1 (by rfl) T.int (by decide +kernel) (pa_cons (pe_op op_add (pe_op op_powW (pv 3) pe_int) (pe_ix ix_list (pv 0) pe_int (fun _ _ => rfl))) pa_nil)) pe_int))
      (pss_cons (ps_set (i := 4) sc_law_draw.nd rfl (Or.inl rfl) (pe_op op_mod (pe_callTy call_int1 (by rfl) T.int (by decide +kernel) (pa_cons (pe_op op_powW (pe_op op_add (pv 4) (pe_op op_mul pe_int (pe_ix ix_list (pv 0) pe_int (fun _ _ => rfl)))) pe_int) pa_nil)) pe_int))
      (pss_one (ps_ret (pe_op op_mod (pe_callTy call_int1 (by rfl) T.int (by decide +kernel) (pa_cons (pe_op op_fdivW (pv 4) pe_int) pa_nil)) (pv 1))))))))), ?_⟩
    refine ⟨_, rfl, p, _, _, .int a, rfl, rfl, SqL.of hp, rfl, _, _, rfl, rfl, _, rfl, ?_⟩
    refine ite2 (fun h1 => ?_) (fun h1 => ?_)
    · have h1 : 0 < a := of_decide_eq_true h1
      refine ⟨_, rfl, p, _, _, .int a, rfl, rfl, SqL.of hp, rfl, .inl ⟨a, rfl, _, rfl, a, m, rfl, rfl, hm, ?_⟩⟩
      refine ⟨_, rfl, p, _, _, .int a, rfl, rfl, SqL.of hp, rfl, _, rfl, a, m, rfl, rfl, wide_div hm hm2 (by decide) (by decide), _, rfl, p, _, _, 0, rfl, rfl, hp, rfl, ?_⟩
      refine ⟨_, rfl, k _ _ keep_upd ⟨a / m, b, c, upd_same, div_nonneg_of ha hm, hb, hb2, hc, ?_⟩ (Int.emod_nonneg _ (Int.ne_of_gt hm)) (Int.emod_lt_of_pos _ hm)⟩
      omega
    · have hc2 : c + 1 ≤ 2 ^ 61 := by
        have : (2 : Int) ^ 61 = 2305843009213693952 := by decide
        have : (2 : Nat) ^ 60 = 1152921504606846976 := by decide
        omega
      have hc3 : 0 ≤ c + 1 := by omega
      refine ⟨_, rfl, p, _, _, .int c, rfl, rfl, SqL.of hp, rfl, c, 1, rfl, rfl, _, rfl, p, _, _, 2, rfl, rfl, hp, rfl, ?_⟩
      have hp2 : (upd H p (.lst ([V.int a, V.int b, V.int c].set 2 (V.int (c + 1))))) p = some (.lst [.int a, .int b, .int (c + 1)]) := upd_same
      obtain ⟨s1, s2⟩ := mix1 hb hb2 hc3 hc2
      refine ⟨_, rfl, p, _, _, .int b, rfl, rfl, SqL.of hp2, rfl, _, rfl, p, _, _, .int (c + 1), rfl, rfl, SqL.of hp2, rfl, _, _, rfl, rfl, .inl ⟨by decide, by decide⟩, _, _, rfl, rfl, ?_⟩
      refine ⟨_, rfl, _, _, rfl, rfl, powW s2 (by decide) (by decide) (by decide), _, rfl, p, _, _, .int (c + 1), rfl, rfl, SqL.of hp2, rfl, _, _, rfl, rfl, .inl ⟨_, rfl, _, _, rfl, rfl, (by show (0 : Int) < 162259276829213363391578010288127; decide), ?_⟩⟩
      have e1 := Int.emod_nonneg ((b + 982451653 * (c + 1)) ^ (3 : Int).toNat + (c + 1)) (show (162259276829213363391578010288127 : Int) ≠ 0 by decide)
      have e2 := Int.emod_lt_of_pos ((b + 982451653 * (c + 1)) ^ (3 : Int).toNat + (c + 1)) (show (0 : Int) < 162259276829213363391578010288127 by decide)
      obtain ⟨s3, s4⟩ := mix2 e1 e2 hc3 hc2
      refine ⟨_, rfl, _, rfl, p, _, _, .int (c + 1), rfl, rfl, SqL.of hp2, rfl, _, _, rfl, rfl, .inl ⟨by decide, by decide⟩, _, _, rfl, rfl, _, _, rfl, rfl, powW s4 (by decide) (by decide) (by decide), .inl ⟨_, rfl, _, _, rfl, rfl, (by show (0 : Int) < 618970019642690137449562111; decide), ?_⟩⟩
      refine ⟨_, rfl, _, _, rfl, rfl, wide_div (b := 20) (by decide) (by decide) (by decide) (by decide), .inl ⟨_, rfl, _, rfl, _, _, rfl, rfl, hm, ?_⟩⟩
      refine k _ _ keep_upd ⟨a, b, c + 1, hp2, ha, hb, hb2, hc3, ?_⟩ (Int.emod_nonneg _ (Int.ne_of_gt hm)) (Int.emod_lt_of_pos _ hm)
      omega
end
end Ow

/-! k01.4: values -/
namespace Ow
open PySem PySem.Spec L2
section
variable {P : Program} {w : World} {K : PySem.W.Frag} {mg : Str → Option Value} {base : Heap}
theorem sc_law_of : FnScope [("_law_pool_here" : Str), ("_law_some" : Str)] [("_law_pool_here" : Str), ("_law_some" : Str)] (defScope s_law_of) := ⟨rfl, rfl, rfl, by decide +kernel, rfl, by decide +kernel, by decide +kernel⟩
theorem ok_of (D : TopD K mg "_law_of" s_law_of) (T : Blt mg) (F_draw : FnAt P w K mg base "_law_draw" [("_law_pool_here" : Str), ("_law_many" : Str)] 1 spDraw) : FnAt P w K mg base "_law_of" [("_law_pool_here" : Str), ("_law_some" : Str)] 2 (spOf K) := by
  refine fn_at D sc_law_of (fun _ _ _ _ _ _ us hl => match us, hl with | [_, _], _ => rfl) (fun vs H Q E h => ?_) (fun f cdv A outer s H vs Q E hr h => ?_)
  · obtain ⟨p, l, n, xs, rfl, _⟩ := h
    rfl
  · obtain ⟨p, l, n, xs, rfl, hp, hn, hS, hne, h0, hl, k⟩ := h
    refine ⟨_, (pss_one (ps_ret (pe_ix ix_list (pv 1) (pe_fn F_draw (hr.mono (by decide)) (by rfl) (pa_cons (pv 0) (pa_cons (pe_callB call_len_seq (by rfl) T.len PySem.boot_len (pa_cons (pv 1) pa_nil)) pa_nil))) (fun _ _ => rfl)))), ?_⟩
    refine ⟨_, rfl, _, rfl, _, rfl, l, _, rfl, .inl hS, p, n, _, rfl, hp, hn, by omega, ?_, fun H' d kp pl d0 d1 => ?_⟩
    · have e2 : (1000 : Nat) < 2 ^ 200 := by decide
      omega
    · have hd : d.toNat < xs.length := by omega
      exact ⟨l, xs, d, xs[d.toNat], rfl, rfl, sqL_keep hS hne kp, at_of (j := d.toNat) (by omega) (List.getElem?_eq_getElem hd), k _ _ kp pl (List.getElem_mem hd)⟩
def sgns : Str := " !#&()*+,-./0123456789:;<=>?@ABCXYZ[]^_abcdefghijklmnopqrstuvwxyz{|}~"
theorem sgns_len : (sgns.length : Int) = 69 := by decide +kernel
theorem sgns_small : ∀ c ∈ sgns.cps.toList, c < 128 := by decide +kernel
theorem sc_law_plain : FnScope [("_law_pool_here" : Str), ("_law_choice" : Str), ("_law_signs" : Str), ("_law_k" : Str)] [("_law_pool_here" : Str)] (defScope s_law_plain) := ⟨rfl, rfl, rfl, by decide +kernel, rfl, by decide +kernel, by decide +kernel⟩
theorem ok_plain (D : TopD K mg "_law_plain" s_law_plain) (T : Blt mg) (F_draw : FnAt P w K mg base "_law_draw" [("_law_pool_here" : Str), ("_law_many" : Str)] 1 spDraw) (F_of : FnAt P w K mg base "_law_of" [("_law_pool_here" : Str), ("_law_some" : Str)] 2 (spOf K)) : FnAt P w K mg base "_law_plain" [("_law_pool_here" : Str)] 3 spPlain := by
  refine fn_at D sc_law_plain (fun _ _ _ _ _ _ us hl => match us, hl with | [_], _ => rfl) (fun vs H Q E h => ?_) (fun f cdv A outer s H vs Q E hr h => ?_)
  · obtain ⟨p, n, rfl, _⟩ := h
    rfl
  · obtain ⟨p, n, rfl, hp, hn, k⟩ := h
    have b60 : (2 : Nat) ^ 50 + 100 < 2 ^ 60 := by decide
    refine ⟨_, (pss_cons (ps_set (i := 1) sc_law_plain.nd rfl (Or.inl rfl) (pe_fn F_draw (hr.mono (by decide)) (by rfl) (pa_cons (pv 0) (pa_cons pe_int pa_nil))))
      (pss_cons (ps_if (pt_cmpR op_eq (pv 1) pe_int (nomark _))
      (pss_one (ps_ret (pe_op op_add (pe_op op_sub (pe_fn F_draw (hr.mono (by decide)) (by rfl) (pa_cons (pv 0) (pa_cons (pe_op op_sub (pe_op op_mul pe_int (pe_op op_powW pe_int pe_int)) pe_int) pa_nil))) (pe_op op_powW pe_int pe_int)) pe_int)))
      pss_nil)
      (pss_cons (ps_if (pt_cmpR op_eq (pv 1) pe_int (nomark _))
      (pss_cons (ps_set (i := 2) sc_law_plain.nd rfl (Or.inr rfl) pe_str)
      (pss_one (ps_ret (pe_join pe_str (pe_lc (own := [(("_law_k" : Str), 3)]) (by rfl) sc_law_plain.nd (pi_range1 rfl T.range (pa_cons (pe_fn F_draw (hr.mono (by decide)) (by rfl) (pa_cons (pv 0) (pa_cons pe_int pa_nil))) pa_nil)) (blkOk_by (own := [(("_law_k" : Str), 3)]) (N := [("_law_pool_here" : Str), ("_law_choice" : Str), ("_law_signs" : Str), ("_law_k" : Str)]) (sc := defScope s_law_plain) (by decide +kernel)) (fun _ _ _ _ _ => pg_name (i := 3) sc_law_plain.nd rfl (Or.inl rfl)) (fun _ _ _ _ _ => pts_nil) (fun _ _ _ _ _ => (pe_ix ix_str (pv 2) (pe_fn F_draw (hr.mono (by decide)) (by rfl) (pa_cons (pv 0) (pa_cons (pe_callB call_len_str (by rfl) T.len PySem.boot_len (pa_cons (pv 2) pa_nil)) pa_nil))) (fun _ _ => rfl))))))))
      pss_nil)
      (pss_one (ps_ret (pe_fn F_of (hr.mono (by decide)) (by rfl) (pa_cons (pv 0) (pa_cons (pe_lst (pa_cons pe_int (pa_cons pe_int (pa_cons (pe_un un_neg pe_int) (pa_cons pe_bl (pa_cons pe_bl (pa_cons pe_non pa_nil))))))) pa_nil)))))))), ?_⟩
    refine ⟨_, rfl, p, n, 4, rfl, hp, by omega, by decide, by decide, fun H1 c k1 p1 c0 c1 => ?_⟩
    refine ⟨_, rfl, rfl, _, rfl, ?_⟩
    refine ite2 (fun _ => ?_) (fun _ => ?_)
    · refine ⟨_, rfl, _, _, rfl, rfl, powW (n := 4) (by decide) (by decide) (by decide) (by decide), _, _, rfl, rfl, .inl ⟨by decide, by decide⟩, _, _, rfl, rfl, p, n + 1, _, rfl, p1, by omega, by decide, by decide, fun H2 d k2 p2 d0 d1 => ?_⟩
      refine ⟨_, _, rfl, rfl, powW (n := 4) (by decide) (by decide) (by decide) (by decide), _, _, rfl, rfl, _, _, rfl, rfl, ?_⟩
      exact k _ _ (k1.trans k2) (p2.mono (by omega)) (.inr (.inr (.inl ⟨_, rfl, big40 d0 d1⟩)))
    · refine ⟨_, rfl, rfl, _, rfl, ?_⟩
      refine ite2 (fun _ => ?_) (fun _ => ?_)
      · refine ⟨⟨_, rfl⟩, ?_⟩
        refine ⟨_, rfl, p, n + 1, 7, rfl, p1, by omega, by decide, by decide, fun H2 d k2 p2 d0 d1 => ?_⟩
        refine ⟨d, rfl, by omega, by omega, fun l hl => ?_⟩
        have nlp : l ≠ p := p2.ne hl
        have hsz : sgns.length ≤ sizeLine := by decide +kernel
        refine lc_range (lo := 0) (n := d.toNat) (fun i H' => ∃ ys : List Str, H' l = some (.lst (ys.map V.str)) ∧ ys.length = i ∧ (∀ y ∈ ys, y.length = 1 ∧ ∀ c ∈ y.cps.toList, c < 128) ∧ Keep p H2 H' ∧ PoolAt H' p (n + 2 + i))
          ⟨[], upd_same, rfl, (fun _ z => nomatch z), fun b o _ e => by rw [upd_ne (ne_of_none e hl)]; exact e, p2.same fun b o e => by rw [upd_ne (ne_of_none e hl)]; exact e⟩ ?_ ?_
        · rintro i H3 hi ⟨ys, hl3, hn3, hy, k3, p3⟩
          have e69 := sgns_len
          refine ⟨rfl, _, rfl, _, rfl, _, rfl, sgns, rfl, hsz, p, n + 2 + i, _, rfl, p3, by omega, by omega, by rw [e69]; decide, fun H4 e k4 p4 e0 e1 => ?_⟩
          have he : e.toNat < sgns.cps.toList.length := by
            have : sgns.length = sgns.cps.toList.length := by simp [Str.length]
            omega
          refine ⟨sgns, e, sgns.cps.toList[e.toNat], rfl, rfl, hsz, ?_, ys.map V.str, k4 _ _ nlp hl3, ?_, ?_⟩
          · have q : sgns.cps.toList[e.toNat]? = some sgns.cps.toList[e.toNat] := List.getElem?_eq_getElem he
            have ee : e = ((e.toNat : Nat) : Int) := by omega
            have q2 := atI_nat q
            rw [← ee] at q2
            exact q2
          · rw [List.length_map, hn3, sizeLine_eq]
            omega
          · refine ⟨ys ++ [⟨#[sgns.cps.toList[e.toNat]]⟩], ?_, by rw [List.length_append, hn3]; rfl, fun y hy2 => ?_, fun b o nb q => ?_, ?_⟩
            · rw [upd_same, List.map_append]
              rfl
            · rcases List.mem_append.mp hy2 with z | z
              · exact hy y z
              · rw [List.mem_singleton.mp z]
                refine ⟨rfl, fun c hc => ?_⟩
                have hc : c = sgns.cps.toList[e.toNat] := by simpa using hc
                rw [hc]
                exact sgns_small _ (List.getElem_mem he)
            · rw [upd_ne (ne_of_none q hl)]
              exact k4 _ _ nb (k3 _ _ nb q)
            · obtain ⟨a, b, c, q, r⟩ := p4
              exact ⟨a, b, c, by rw [upd_ne nlp.symm]; exact q, r⟩
        · rintro H3 ⟨ys, hl3, hn3, hy, k3, p3⟩
          have hs1 := sum_ones ys fun y z => (hy y z).1
          have e0 : (("" : Str)).length = 0 := rfl
          have ej : Txt.join ("" : Str) ys = Str.join ("" : Str) ys := eq_of_beq (PyProof.Rows.join_plain_closes _ _)
          refine ⟨("" : Str), l, ys, rfl, rfl, .inl (SqL.of hl3), ?_, ?_⟩
          · rw [hs1, e0]
            omega
          · rw [ej]
            refine k _ _ (k1.trans (k2.trans k3)) (p3.mono (by omega)) (.inr (.inr (.inr ⟨_, rfl, ?_, fun c hc => ?_⟩)))
            · refine Nat.le_trans (join_len _ _) ?_
              rw [hs1, e0]
              omega
            · rcases (PyProof.Rows.mem_join _ _ _).mp hc with ⟨t, h1, h2⟩ | ⟨_, z⟩
              · exact (hy t h1).2 c h2
              · exact absurd z (List.not_mem_nil (a := c))
      · refine ⟨_, rfl, 1, rfl, by show 6 ≤ sizeLine; decide, fun l hl => ?_⟩
        have sl : Same H1 (upd H1 l (.lst [V.int 0, V.int 1, V.int (-1), V.bl true, V.bl false, V.non])) := fun b o e => by rw [upd_ne (ne_of_none e hl)]; exact e
        refine ⟨p, l, n + 1, _, rfl, p1.same sl, by omega, SqL.of upd_same, p1.ne hl, by decide, by decide, fun H2 v k2 p2 hv => ?_⟩
        refine k _ _ (k1.trans ((Keep.of sl).trans k2)) (p2.mono (by omega)) ?_
        simp only [List.mem_cons, List.not_mem_nil, or_false] at hv
        rcases hv with rfl | rfl | rfl | rfl | rfl | rfl
        · exact .inr (.inr (.inl ⟨_, rfl, by decide⟩))
        · exact .inr (.inr (.inl ⟨_, rfl, by decide⟩))
        · exact .inr (.inr (.inl ⟨_, rfl, by decide⟩))
        · exact .inr (.inl ⟨_, rfl⟩)
        · exact .inr (.inl ⟨_, rfl⟩)
        · exact .inl rfl
theorem sc_law_value : FnScope [("_law_pool_here" : Str), ("_law_k" : Str)] [("_law_pool_here" : Str)] (defScope s_law_value) := ⟨rfl, rfl, rfl, by decide +kernel, rfl, by decide +kernel, by decide +kernel⟩
theorem ok_value (D : TopD K mg "_law_value" s_law_value) (T : Blt mg) (F_draw : FnAt P w K mg base "_law_draw" [("_law_pool_here" : Str), ("_law_many" : Str)] 1 spDraw) (F_plain : FnAt P w K mg base "_law_plain" [("_law_pool_here" : Str)] 3 spPlain) : FnAt P w K mg base "_law_value" [("_law_pool_here" : Str)] 4 spValue := by
  refine fn_at D sc_law_value (fun _ _ _ _ _ _ us hl => match us, hl with | [_], _ => rfl) (fun vs H Q E h => ?_) (fun f cdv A outer s H vs Q E hr h => ?_)
  · obtain ⟨p, n, rfl, _⟩ := h
    rfl
  · obtain ⟨p, n, rfl, hp, hn, k⟩ := h
    have b50 : (2 : Nat) ^ 40 + 100 < 2 ^ 50 := by decide
    have b60 : (2 : Nat) ^ 50 + 100 < 2 ^ 60 := by decide
    refine ⟨_, (pss_cons (ps_if (pt_cmpR op_eq (pe_fn F_draw (hr.mono (by decide)) (by rfl) (pa_cons (pv 0) (pa_cons pe_int pa_nil))) pe_int (nomark _))
      (pss_one (ps_ret (pe_callTy call_tuple_of (by rfl) T.tuple (by decide +kernel) (pa_cons (pe_lc (own := [(("_law_k" : Str), 1)]) (by rfl) sc_law_value.nd (pi_range1 rfl T.range (pa_cons (pe_fn F_draw (hr.mono (by decide)) (by rfl) (pa_cons (pv 0) (pa_cons pe_int pa_nil))) pa_nil)) (blkOk_by (own := [(("_law_k" : Str), 1)]) (N := [("_law_pool_here" : Str), ("_law_k" : Str)]) (sc := defScope s_law_value) (by decide +kernel)) (fun _ _ _ _ _ => pg_name (i := 1) sc_law_value.nd rfl (Or.inl rfl)) (fun _ _ _ _ _ => pts_nil) (fun _ _ _ _ _ => (pe_fn F_plain (hr.mono (by decide)) (by rfl) (pa_cons (pv 0) pa_nil)))) pa_nil))))
      pss_nil)
      (pss_one (ps_ret (pe_fn F_plain (hr.mono (by decide)) (by rfl) (pa_cons (pv 0) pa_nil))))), ?_⟩
    refine ⟨_, rfl, p, n, 3, rfl, hp, by omega, by decide, by decide, fun H1 c k1 p1 c0 c1 => ?_⟩
    refine ⟨rfl, _, rfl, ?_⟩
    refine ite2 (fun _ => ?_) (fun _ => ?_)
    · refine ⟨_, rfl, p, n + 1, 4, rfl, p1, by omega, by decide, by decide, fun H2 d k2 p2 d0 d1 => ?_⟩
      refine ⟨d, rfl, by omega, by omega, fun l hl => ?_⟩
      have nlp : l ≠ p := p2.ne hl
      refine lc_range (lo := 0) (n := d.toNat) (fun i H' => ∃ ys : List V, H' l = some (.lst ys) ∧ ys.length = i ∧ (∀ y ∈ ys, Pln y) ∧ Keep p H2 H' ∧ PoolAt H' p (n + 2 + 10 * i))
        ⟨[], upd_same, rfl, (fun _ z => nomatch z), fun b o _ e => by rw [upd_ne (ne_of_none e hl)]; exact e, p2.same fun b o e => by rw [upd_ne (ne_of_none e hl)]; exact e⟩ ?_ ?_
      · rintro i H3 hi ⟨ys, hl3, hn3, hy, k3, p3⟩
        refine ⟨rfl, _, rfl, p, n + 2 + 10 * i, rfl, p3, by omega, fun H4 v k4 p4 hv => ?_⟩
        refine ⟨ys, k4 _ _ nlp hl3, ?_, ys ++ [v], upd_same, by rw [List.length_append, hn3]; rfl, fun y hy2 => ?_, fun b o nb q => ?_, ?_⟩
        · rw [hn3, sizeLine_eq]
          omega
        · rcases List.mem_append.mp hy2 with z | z
          · exact hy y z
          · rw [List.mem_singleton.mp z]
            exact hv
        · rw [upd_ne (ne_of_none q hl)]
          exact k4 _ _ nb (k3 _ _ nb q)
        · obtain ⟨a, b, c, q, r⟩ := p4.mono (show n + 2 + 10 * i + 10 ≤ n + 2 + 10 * (i + 1) by omega)
          exact ⟨a, b, c, by rw [upd_ne nlp.symm]; exact q, r⟩
      · rintro H3 ⟨ys, hl3, hn3, hy, k3, p3⟩
        refine ⟨l, ys, rfl, .inl ⟨SqL.of hl3, fun t ht => ?_⟩⟩
        have st : Same H3 (upd H3 t (.tup ys)) := fun b o e => by rw [upd_ne (ne_of_none e ht)]; exact e
        exact k _ _ (k1.trans (k2.trans (k3.trans (Keep.of st)))) ((p3.same st).mono (by omega)) (.inr ⟨t, ys, rfl, upd_same, by omega, hy⟩)
    · refine ⟨_, rfl, p, n + 1, rfl, p1, by omega, fun H2 v k2 p2 hv => ?_⟩
      exact k _ _ (k1.trans k2) (p2.mono (by omega)) (.inl hv)
end
end Ow

/-! k01.5: errors made -/
namespace Ow
open PySem PySem.Spec L2
structure Cls (P : Program) (K : PySem.W.Frag) (mg : Str → Option Value) : Prop where
  BadSchema : ClsAt P K mg "BadSchema" "BadSchema.__init__" i_BadSchema [("at" : Str)]
  mg_BadSchema : mg "BadSchema" = some (.ref (He.ga K "BadSchema"))
  BadStore : ClsAt P K mg "BadStore" "BadStore.__init__" i_BadStore [("at" : Str)]
  mg_BadStore : mg "BadStore" = some (.ref (He.ga K "BadStore"))
  BadDeed : ClsAt P K mg "BadDeed" "BadDeed.__init__" i_BadDeed [("deed" : Str)]
  mg_BadDeed : mg "BadDeed" = some (.ref (He.ga K "BadDeed"))
  NoTable : ClsAt P K mg "NoTable" "NoTable.__init__" i_NoTable [("table" : Str)]
  mg_NoTable : mg "NoTable" = some (.ref (He.ga K "NoTable"))
  NoColumn : ClsAt P K mg "NoColumn" "NoColumn.__init__" i_NoColumn [("table" : Str), ("column" : Str)]
  mg_NoColumn : mg "NoColumn" = some (.ref (He.ga K "NoColumn"))
  NoRow : ClsAt P K mg "NoRow" "NoRow.__init__" i_NoRow [("table" : Str), ("key" : Str)]
  mg_NoRow : mg "NoRow" = some (.ref (He.ga K "NoRow"))
  Taken : ClsAt P K mg "Taken" "Taken.__init__" i_Taken [("table" : Str), ("key" : Str)]
  mg_Taken : mg "Taken" = some (.ref (He.ga K "Taken"))
  BadCell : ClsAt P K mg "BadCell" "BadCell.__init__" i_BadCell [("table" : Str), ("column" : Str), ("cell" : Str)]
  mg_BadCell : mg "BadCell" = some (.ref (He.ga K "BadCell"))
  Held : ClsAt P K mg "Held" "Held.__init__" i_Held [("table" : Str), ("key" : Str)]
  mg_Held : mg "Held" = some (.ref (He.ga K "Held"))
  NotBulk : ClsAt P K mg "NotBulk" "NotBulk.__init__" i_NotBulk [("table" : Str), ("column" : Str)]
  mg_NotBulk : mg "NotBulk" = some (.ref (He.ga K "NotBulk"))
  TooMany : ClsAt P K mg "TooMany" "TooMany.__init__" i_TooMany [("what" : Str)]
  mg_TooMany : mg "TooMany" = some (.ref (He.ga K "TooMany"))
  BadWay : ClsAt P K mg "BadWay" "BadWay.__init__" i_BadWay [("at" : Str)]
  mg_BadWay : mg "BadWay" = some (.ref (He.ga K "BadWay"))
  Mismatch : ClsAt P K mg "Mismatch" "Mismatch.__init__" i_Mismatch [("first" : Str), ("second" : Str)]
  mg_Mismatch : mg "Mismatch" = some (.ref (He.ga K "Mismatch"))
  BadDocument : ClsAt P K mg "BadDocument" "BadDocument.__init__" i_BadDocument [("at" : Str)]
  mg_BadDocument : mg "BadDocument" = some (.ref (He.ga K "BadDocument"))
  BadHook : ClsAt P K mg "BadHook" "BadHook.__init__" i_BadHook [("what" : Str)]
  mg_BadHook : mg "BadHook" = some (.ref (He.ga K "BadHook"))
  BadBook : ClsAt P K mg "BadBook" "BadBook.__init__" i_BadBook [("what" : Str), ("at" : Str)]
  mg_BadBook : mg "BadBook" = some (.ref (He.ga K "BadBook"))
  Crooked : ClsAt P K mg "Crooked" "Crooked.__init__" i_Crooked [("where" : Str)]
  mg_Crooked : mg "Crooked" = some (.ref (He.ga K "Crooked"))
  BadLine : ClsAt P K mg "BadLine" "BadLine.__init__" i_BadLine [("at" : Str)]
  mg_BadLine : mg "BadLine" = some (.ref (He.ga K "BadLine"))
  NoDocument : ClsAt P K mg "NoDocument" "NoDocument.__init__" i_NoDocument [("name" : Str), ("key" : Str)]
  mg_NoDocument : mg "NoDocument" = some (.ref (He.ga K "NoDocument"))
  TooLong : ClsAt P K mg "TooLong" "TooLong.__init__" i_TooLong [("name" : Str), ("key" : Str), ("most" : Str)]
  mg_TooLong : mg "TooLong" = some (.ref (He.ga K "TooLong"))
  Refused : ClsAt P K mg "Refused" "Refused.__init__" i_Refused [("at" : Str), ("why" : Str)]
  mg_Refused : mg "Refused" = some (.ref (He.ga K "Refused"))
  Failed : ClsAt P K mg "Failed" "Failed.__init__" i_Failed [("at" : Str), ("why" : Str)]
  mg_Failed : mg "Failed" = some (.ref (He.ga K "Failed"))
  NotKept : ClsAt P K mg "NotKept" "NotKept.__init__" i_NotKept []
  mg_NotKept : mg "NotKept" = some (.ref (He.ga K "NotKept"))
  mg_OwedError : mg "OwedError" = some (.ref (He.ga K "OwedError"))
  ve : mg "ValueError" = none
def cns : List Str := cs.map (·.1)
def spAts (K : PySem.W.Frag) : Sp := fun vs H Q _ => ∃ a : V, vs = [a] ∧ ValAt H a ∧ ∀ D H', Same H H' → RowsAt K cns H' D 40 → Q (.ref D) H'
def spTwos (K : PySem.W.Frag) : Sp := fun vs H Q _ => ∃ a b : V, vs = [a, b] ∧ ValAt H a ∧ ValAt H b ∧ ∀ D H', Same H H' → RowsAt K cns H' D 40 → Q (.ref D) H'
def spThrees (K : PySem.W.Frag) : Sp := fun vs H Q _ => ∃ a b c : V, vs = [a, b, c] ∧ ValAt H a ∧ ValAt H b ∧ ValAt H c ∧ ∀ D H', Same H H' → RowsAt K cns H' D 40 → Q (.ref D) H'
section
variable {P : Program} {w : World} {K : PySem.W.Frag} {mg : Str → Option Value} {base : Heap}
theorem sc_law_ones : FnScope [("_law_a" : Str), ("_law_found" : Str), ("_law_e" : Str)] [("_law_a" : Str)] (defScope s_law_ones) := ⟨rfl, rfl, rfl, by decide +kernel, rfl, by decide +kernel, by decide +kernel⟩
theorem ok_ones (D : TopD K mg "_law_ones" s_law_ones) (T : Blt mg) (C : Cls P K mg) : FnAt P w K mg base "_law_ones" [("_law_a" : Str)] 3 (spAts K) := by
  refine fn_at D sc_law_ones (fun _ _ _ _ _ _ us hl => match us, hl with | [_], _ => rfl) (fun vs H Q E h => ?_) (fun f cdv A outer s H vs Q E hr h => ?_)
  · obtain ⟨a, rfl, _⟩ := h
    rfl
  · obtain ⟨a, rfl, va, k⟩ := h
    refine ⟨_, (pss_cons (ps_setLc (i := 1) (own := [(("_law_e" : Str), 2)]) (by rfl) sc_law_ones.nd rfl rfl (sw_true rfl rfl rfl (by decide +kernel)) (pi_list (pe_lst (pa_cons (pe_xN (ks := []) (n := 1) C.BadDeed (hr.mono (by decide)) (by rfl) (by decide) (fun _ _ _ _ _ _ _ u us ws h1 h2 => match us, ws, h1, h2 with | [_], [], _, _ => rfl) (pa_cons (pv 0) pa_nil) pk_nil) (pa_cons (pe_x0 (ks := [("deed" : Str)]) C.BadDeed (hr.mono (by decide)) (by rfl) (fun _ _ _ _ _ _ _ u us ws h1 h2 => match us, ws, h1, h2 with | [], [_], _, _ => rfl) (pk_cons (pv 0) pk_nil)) pa_nil)))) (blkOk_by (own := [(("_law_e" : Str), 2)]) (N := [("_law_a" : Str), ("_law_found" : Str), ("_law_e" : Str)]) (sc := defScope s_law_ones) (by decide +kernel)) (fun _ _ _ _ _ => pg_name (i := 2) sc_law_ones.nd rfl (Or.inl rfl)) (fun _ _ _ _ _ => pts_nil) (fun _ _ _ _ _ => (pe_tup (pa_cons pe_str (pa_cons (pv 2) (pa_cons (pe_tup (pa_cons (pe_efl (K := K) (pv 2)) pa_nil)) (pa_cons (pe_tup (pa_cons (pv 0) pa_nil)) pa_nil)))))))
      (pss_cons (ps_set (i := 1) sc_law_ones.nd rfl (Or.inl rfl) (pe_op op_cat (pv 1) (pe_lc (own := [(("_law_e" : Str), 2)]) (by rfl) sc_law_ones.nd (pi_list (pe_lst (pa_cons (pe_xN (ks := []) (n := 1) C.NoTable (hr.mono (by decide)) (by rfl) (by decide) (fun _ _ _ _ _ _ _ u us ws h1 h2 => match us, ws, h1, h2 with | [_], [], _, _ => rfl) (pa_cons (pv 0) pa_nil) pk_nil) (pa_cons (pe_x0 (ks := [("table" : Str)]) C.NoTable (hr.mono (by decide)) (by rfl) (fun _ _ _ _ _ _ _ u us ws h1 h2 => match us, ws, h1, h2 with | [], [_], _, _ => rfl) (pk_cons (pv 0) pk_nil)) pa_nil)))) (blkOk_by (own := [(("_law_e" : Str), 2)]) (N := [("_law_a" : Str), ("_law_found" : Str), ("_law_e" : Str)]) (sc := defScope s_law_ones) (by decide +kernel)) (fun _ _ _ _ _ => pg_name (i := 2) sc_law_ones.nd rfl (Or.inl rfl)) (fun _ _ _ _ _ => pts_nil) (fun _ _ _ _ _ => (pe_tup (pa_cons pe_str (pa_cons (pv 2) (pa_cons (pe_tup (pa_cons (pe_efl (K := K) (pv 2)) pa_nil)) (pa_cons (pe_tup (pa_cons (pv 0) pa_nil)) pa_nil)))))))))
      (pss_cons (ps_set (i := 1) sc_law_ones.nd rfl (Or.inl rfl) (pe_op op_cat (pv 1) (pe_lc (own := [(("_law_e" : Str), 2)]) (by rfl) sc_law_ones.nd (pi_list (pe_lst (pa_cons (pe_xN (ks := []) (n := 1) C.TooMany (hr.mono (by decide)) (by rfl) (by decide) (fun _ _ _ _ _ _ _ u us ws h1 h2 => match us, ws, h1, h2 with | [_], [], _, _ => rfl) (pa_cons (pv 0) pa_nil) pk_nil) (pa_cons (pe_x0 (ks := [("what" : Str)]) C.TooMany (hr.mono (by decide)) (by rfl) (fun _ _ _ _ _ _ _ u us ws h1 h2 => match us, ws, h1, h2 with | [], [_], _, _ => rfl) (pk_cons (pv 0) pk_nil)) pa_nil)))) (blkOk_by (own := [(("_law_e" : Str), 2)]) (N := [("_law_a" : Str), ("_law_found" : Str), ("_law_e" : Str)]) (sc := defScope s_law_ones) (by decide +kernel)) (fun _ _ _ _ _ => pg_name (i := 2) sc_law_ones.nd rfl (Or.inl rfl)) (fun _ _ _ _ _ => pts_nil) (fun _ _ _ _ _ => (pe_tup (pa_cons pe_str (pa_cons (pv 2) (pa_cons (pe_tup (pa_cons (pe_efl (K := K) (pv 2)) pa_nil)) (pa_cons (pe_tup (pa_cons (pv 0) pa_nil)) pa_nil)))))))))
      (pss_cons (ps_set (i := 1) sc_law_ones.nd rfl (Or.inl rfl) (pe_op op_cat (pv 1) (pe_lc (own := [(("_law_e" : Str), 2)]) (by rfl) sc_law_ones.nd (pi_list (pe_lst (pa_cons (pe_xN (ks := []) (n := 1) C.BadHook (hr.mono (by decide)) (by rfl) (by decide) (fun _ _ _ _ _ _ _ u us ws h1 h2 => match us, ws, h1, h2 with | [_], [], _, _ => rfl) (pa_cons (pv 0) pa_nil) pk_nil) (pa_cons (pe_x0 (ks := [("what" : Str)]) C.BadHook (hr.mono (by decide)) (by rfl) (fun _ _ _ _ _ _ _ u us ws h1 h2 => match us, ws, h1, h2 with | [], [_], _, _ => rfl) (pk_cons (pv 0) pk_nil)) pa_nil)))) (blkOk_by (own := [(("_law_e" : Str), 2)]) (N := [("_law_a" : Str), ("_law_found" : Str), ("_law_e" : Str)]) (sc := defScope s_law_ones) (by decide +kernel)) (fun _ _ _ _ _ => pg_name (i := 2) sc_law_ones.nd rfl (Or.inl rfl)) (fun _ _ _ _ _ => pts_nil) (fun _ _ _ _ _ => (pe_tup (pa_cons pe_str (pa_cons (pv 2) (pa_cons (pe_tup (pa_cons (pe_efl (K := K) (pv 2)) pa_nil)) (pa_cons (pe_tup (pa_cons (pv 0) pa_nil)) pa_nil)))))))))
      (pss_cons (ps_set (i := 1) sc_law_ones.nd rfl (Or.inl rfl) (pe_op op_cat (pv 1) (pe_lc (own := [(("_law_e" : Str), 2)]) (by rfl) sc_law_ones.nd (pi_list (pe_lst (pa_cons (pe_xN (ks := []) (n := 1) C.Crooked (hr.mono (by decide)) (by rfl) (by decide) (fun _ _ _ _ _ _ _ u us ws h1 h2 => match us, ws, h1, h2 with | [_], [], _, _ => rfl) (pa_cons (pv 0) pa_nil) pk_nil) (pa_cons (pe_x0 (ks := [("where" : Str)]) C.Crooked (hr.mono (by decide)) (by rfl) (fun _ _ _ _ _ _ _ u us ws h1 h2 => match us, ws, h1, h2 with | [], [_], _, _ => rfl) (pk_cons (pv 0) pk_nil)) pa_nil)))) (blkOk_by (own := [(("_law_e" : Str), 2)]) (N := [("_law_a" : Str), ("_law_found" : Str), ("_law_e" : Str)]) (sc := defScope s_law_ones) (by decide +kernel)) (fun _ _ _ _ _ => pg_name (i := 2) sc_law_ones.nd rfl (Or.inl rfl)) (fun _ _ _ _ _ => pts_nil) (fun _ _ _ _ _ => (pe_tup (pa_cons pe_str (pa_cons (pv 2) (pa_cons (pe_tup (pa_cons (pe_efl (K := K) (pv 2)) pa_nil)) (pa_cons (pe_tup (pa_cons (pv 0) pa_nil)) pa_nil)))))))))
      (pss_one (ps_ret (pe_op op_cat (pv 1) (pe_lst (pa_cons (pe_tup (pa_cons pe_str (pa_cons (pe_x0 (ks := []) C.NotKept (hr.mono (by decide)) (by rfl) (fun _ _ _ _ _ _ _ u us ws h1 h2 => match us, ws, h1, h2 with | [], [], _, _ => rfl) pk_nil) (pa_cons (pe_tup pa_nil) (pa_cons (pe_tup pa_nil) pa_nil))))) pa_nil)))))))))), ?_⟩
    have hv : ∀ u ∈ [a], ValAt H u := fun u hu => by rw [List.mem_singleton.mp hu]; exact va
    refine as_ ?_
    refine rows_two (K := K) (ns := cns) (nm := ("BadDeed" : Str)) (l := [(("deed" : Str), a)]) (us := [a]) (by decide +kernel) (by show 1 ≤ 3; decide) (fun u hu => (hv u hu)) (by show 2 < 3; decide) (fun _ _ q => ⟨_, rfl, rfl, rfl, rfl, q⟩) (fun _ _ q => ⟨_, rfl, rfl, rfl, rfl, q⟩) (fun _ e _ he q => ⟨_, rfl, e, _, _, a, rfl, he, C.BadDeed.xf, C.BadDeed.no (by decide +kernel), rfl, q⟩) (fun _ _ _ q => ⟨_, rfl, q⟩) (fun D0 H0 s0 r0 => ?_)
    refine as_ (op_ (var_ rfl ?_))
    refine rows_two (K := K) (ns := cns) (nm := ("NoTable" : Str)) (l := [(("table" : Str), a)]) (us := [a]) (by decide +kernel) (by show 1 ≤ 3; decide) (fun u hu => (hv u hu).same s0) (by show 2 < 3; decide) (fun _ _ q => ⟨_, rfl, rfl, rfl, rfl, q⟩) (fun _ _ q => ⟨_, rfl, rfl, rfl, rfl, q⟩) (fun _ e _ he q => ⟨_, rfl, e, _, _, a, rfl, he, C.NoTable.xf, C.NoTable.no (by decide +kernel), rfl, q⟩) (fun _ _ _ q => ⟨_, rfl, q⟩) (fun D1a H1a s1a r1a => rows_cat (r0.same s1a) r1a (by decide) (fun D1 H1 s1 r1 => ?_))
    have z1 := (s0).trans (s1a.trans s1)
    refine as_ (op_ (var_ rfl ?_))
    refine rows_two (K := K) (ns := cns) (nm := ("TooMany" : Str)) (l := [(("what" : Str), a)]) (us := [a]) (by decide +kernel) (by show 1 ≤ 3; decide) (fun u hu => (hv u hu).same z1) (by show 2 < 3; decide) (fun _ _ q => ⟨_, rfl, rfl, rfl, rfl, q⟩) (fun _ _ q => ⟨_, rfl, rfl, rfl, rfl, q⟩) (fun _ e _ he q => ⟨_, rfl, e, _, _, a, rfl, he, C.TooMany.xf, C.TooMany.no (by decide +kernel), rfl, q⟩) (fun _ _ _ q => ⟨_, rfl, q⟩) (fun D2a H2a s2a r2a => rows_cat (r1.same s2a) r2a (by decide) (fun D2 H2 s2 r2 => ?_))
    have z2 := (z1).trans (s2a.trans s2)
    refine as_ (op_ (var_ rfl ?_))
    refine rows_two (K := K) (ns := cns) (nm := ("BadHook" : Str)) (l := [(("what" : Str), a)]) (us := [a]) (by decide +kernel) (by show 1 ≤ 3; decide) (fun u hu => (hv u hu).same z2) (by show 2 < 3; decide) (fun _ _ q => ⟨_, rfl, rfl, rfl, rfl, q⟩) (fun _ _ q => ⟨_, rfl, rfl, rfl, rfl, q⟩) (fun _ e _ he q => ⟨_, rfl, e, _, _, a, rfl, he, C.BadHook.xf, C.BadHook.no (by decide +kernel), rfl, q⟩) (fun _ _ _ q => ⟨_, rfl, q⟩) (fun D3a H3a s3a r3a => rows_cat (r2.same s3a) r3a (by decide) (fun D3 H3 s3 r3 => ?_))
    have z3 := (z2).trans (s3a.trans s3)
    refine as_ (op_ (var_ rfl ?_))
    refine rows_two (K := K) (ns := cns) (nm := ("Crooked" : Str)) (l := [(("where" : Str), a)]) (us := [a]) (by decide +kernel) (by show 1 ≤ 3; decide) (fun u hu => (hv u hu).same z3) (by show 2 < 3; decide) (fun _ _ q => ⟨_, rfl, rfl, rfl, rfl, q⟩) (fun _ _ q => ⟨_, rfl, rfl, rfl, rfl, q⟩) (fun _ e _ he q => ⟨_, rfl, e, _, _, a, rfl, he, C.Crooked.xf, C.Crooked.no (by decide +kernel), rfl, q⟩) (fun _ _ _ q => ⟨_, rfl, q⟩) (fun D4a H4a s4a r4a => rows_cat (r3.same s4a) r4a (by decide) (fun D4 H4 s4 r4 => ?_))
    have z4 := (z3).trans (s4a.trans s4)
    refine ⟨_, rfl, rfl, rfl, rfl, fun e H5 n5 s5 x5 => ?_⟩
    refine ⟨by show 0 ≤ sizeLine; decide, fun p1 n1 => ⟨by show 0 ≤ sizeLine; decide, fun p2 n2 => ⟨by show 4 ≤ sizeLine; decide, fun t nt => ⟨by show 1 ≤ sizeLine; decide, fun L nL => ?_⟩⟩⟩⟩
    have y1 := same_new (o := .tup []) n1
    have y2 := same_new (o := .tup []) n2
    have y3 := same_new (o := .tup [.str "NotKept", .ref e, .ref p1, .ref p2]) nt
    have y4 := same_new (o := .lst [.ref t]) nL
    refine rows_cat (n := 10) (m := 1) (r4.same (s5.trans (y1.trans (y2.trans (y3.trans y4))))) ⟨[.ref t], upd_same, Nat.le_refl _, fun r hr => ?_⟩ (by decide) (fun D6 H6 s6 r6 => k _ _ (z4.trans (s5.trans (y1.trans (y2.trans (y3.trans (y4.trans s6)))))) ?_)
    · rw [List.mem_singleton.mp hr]
      exact ⟨t, e, p1, p2, "NotKept", [], [], rfl, y4 _ _ upd_same, by decide +kernel, x5.same (y1.trans (y2.trans (y3.trans y4))), y4 _ _ (y3 _ _ (y2 _ _ upd_same)), y4 _ _ (y3 _ _ upd_same), by decide, fun _ z => nomatch z⟩
    · obtain ⟨rows, q1, q2, q3⟩ := r6
      exact ⟨rows, q1, by omega, q3⟩
theorem sc_law_twos : FnScope [("_law_a" : Str), ("_law_b" : Str), ("_law_found" : Str), ("_law_e" : Str)] [("_law_a" : Str), ("_law_b" : Str)] (defScope s_law_twos) := ⟨rfl, rfl, rfl, by decide +kernel, rfl, by decide +kernel, by decide +kernel⟩
theorem ok_twos (D : TopD K mg "_law_twos" s_law_twos) (T : Blt mg) (C : Cls P K mg) : FnAt P w K mg base "_law_twos" [("_law_a" : Str), ("_law_b" : Str)] 3 (spTwos K) := by
  refine fn_at D sc_law_twos (fun _ _ _ _ _ _ us hl => match us, hl with | [_, _], _ => rfl) (fun vs H Q E h => ?_) (fun f cdv A outer s H vs Q E hr h => ?_)
  · obtain ⟨a, b, rfl, _⟩ := h
    rfl
  · obtain ⟨a, b, rfl, va, vb, k⟩ := h
    refine ⟨_, (pss_cons (ps_setLc (i := 2) (own := [(("_law_e" : Str), 3)]) (by rfl) sc_law_twos.nd rfl rfl (sw_true rfl rfl rfl (by decide +kernel)) (pi_list (pe_lst (pa_cons (pe_xN (ks := []) (n := 2) C.NoColumn (hr.mono (by decide)) (by rfl) (by decide) (fun _ _ _ _ _ _ _ u us ws h1 h2 => match us, ws, h1, h2 with | [_, _], [], _, _ => rfl) (pa_cons (pv 0) (pa_cons (pv 1) pa_nil)) pk_nil) (pa_cons (pe_x0 (ks := [("column" : Str), ("table" : Str)]) C.NoColumn (hr.mono (by decide)) (by rfl) (fun _ _ _ _ _ _ _ u us ws h1 h2 => match us, ws, h1, h2 with | [], [_, _], _, _ => rfl) (pk_cons (pv 1) (pk_cons (pv 0) pk_nil))) pa_nil)))) (blkOk_by (own := [(("_law_e" : Str), 3)]) (N := [("_law_a" : Str), ("_law_b" : Str), ("_law_found" : Str), ("_law_e" : Str)]) (sc := defScope s_law_twos) (by decide +kernel)) (fun _ _ _ _ _ => pg_name (i := 3) sc_law_twos.nd rfl (Or.inl rfl)) (fun _ _ _ _ _ => pts_nil) (fun _ _ _ _ _ => (pe_tup (pa_cons pe_str (pa_cons (pv 3) (pa_cons (pe_tup (pa_cons (pe_efl (K := K) (pv 3)) (pa_cons (pe_efl (K := K) (pv 3)) pa_nil))) (pa_cons (pe_tup (pa_cons (pv 0) (pa_cons (pv 1) pa_nil))) pa_nil)))))))
      (pss_cons (ps_set (i := 2) sc_law_twos.nd rfl (Or.inl rfl) (pe_op op_cat (pv 2) (pe_lc (own := [(("_law_e" : Str), 3)]) (by rfl) sc_law_twos.nd (pi_list (pe_lst (pa_cons (pe_xN (ks := []) (n := 2) C.NoRow (hr.mono (by decide)) (by rfl) (by decide) (fun _ _ _ _ _ _ _ u us ws h1 h2 => match us, ws, h1, h2 with | [_, _], [], _, _ => rfl) (pa_cons (pv 0) (pa_cons (pv 1) pa_nil)) pk_nil) (pa_cons (pe_x0 (ks := [("key" : Str), ("table" : Str)]) C.NoRow (hr.mono (by decide)) (by rfl) (fun _ _ _ _ _ _ _ u us ws h1 h2 => match us, ws, h1, h2 with | [], [_, _], _, _ => rfl) (pk_cons (pv 1) (pk_cons (pv 0) pk_nil))) pa_nil)))) (blkOk_by (own := [(("_law_e" : Str), 3)]) (N := [("_law_a" : Str), ("_law_b" : Str), ("_law_found" : Str), ("_law_e" : Str)]) (sc := defScope s_law_twos) (by decide +kernel)) (fun _ _ _ _ _ => pg_name (i := 3) sc_law_twos.nd rfl (Or.inl rfl)) (fun _ _ _ _ _ => pts_nil) (fun _ _ _ _ _ => (pe_tup (pa_cons pe_str (pa_cons (pv 3) (pa_cons (pe_tup (pa_cons (pe_efl (K := K) (pv 3)) (pa_cons (pe_efl (K := K) (pv 3)) pa_nil))) (pa_cons (pe_tup (pa_cons (pv 0) (pa_cons (pv 1) pa_nil))) pa_nil)))))))))
      (pss_cons (ps_set (i := 2) sc_law_twos.nd rfl (Or.inl rfl) (pe_op op_cat (pv 2) (pe_lc (own := [(("_law_e" : Str), 3)]) (by rfl) sc_law_twos.nd (pi_list (pe_lst (pa_cons (pe_xN (ks := []) (n := 2) C.Taken (hr.mono (by decide)) (by rfl) (by decide) (fun _ _ _ _ _ _ _ u us ws h1 h2 => match us, ws, h1, h2 with | [_, _], [], _, _ => rfl) (pa_cons (pv 0) (pa_cons (pv 1) pa_nil)) pk_nil) (pa_cons (pe_x0 (ks := [("key" : Str), ("table" : Str)]) C.Taken (hr.mono (by decide)) (by rfl) (fun _ _ _ _ _ _ _ u us ws h1 h2 => match us, ws, h1, h2 with | [], [_, _], _, _ => rfl) (pk_cons (pv 1) (pk_cons (pv 0) pk_nil))) pa_nil)))) (blkOk_by (own := [(("_law_e" : Str), 3)]) (N := [("_law_a" : Str), ("_law_b" : Str), ("_law_found" : Str), ("_law_e" : Str)]) (sc := defScope s_law_twos) (by decide +kernel)) (fun _ _ _ _ _ => pg_name (i := 3) sc_law_twos.nd rfl (Or.inl rfl)) (fun _ _ _ _ _ => pts_nil) (fun _ _ _ _ _ => (pe_tup (pa_cons pe_str (pa_cons (pv 3) (pa_cons (pe_tup (pa_cons (pe_efl (K := K) (pv 3)) (pa_cons (pe_efl (K := K) (pv 3)) pa_nil))) (pa_cons (pe_tup (pa_cons (pv 0) (pa_cons (pv 1) pa_nil))) pa_nil)))))))))
      (pss_cons (ps_set (i := 2) sc_law_twos.nd rfl (Or.inl rfl) (pe_op op_cat (pv 2) (pe_lc (own := [(("_law_e" : Str), 3)]) (by rfl) sc_law_twos.nd (pi_list (pe_lst (pa_cons (pe_xN (ks := []) (n := 2) C.Held (hr.mono (by decide)) (by rfl) (by decide) (fun _ _ _ _ _ _ _ u us ws h1 h2 => match us, ws, h1, h2 with | [_, _], [], _, _ => rfl) (pa_cons (pv 0) (pa_cons (pv 1) pa_nil)) pk_nil) (pa_cons (pe_x0 (ks := [("key" : Str), ("table" : Str)]) C.Held (hr.mono (by decide)) (by rfl) (fun _ _ _ _ _ _ _ u us ws h1 h2 => match us, ws, h1, h2 with | [], [_, _], _, _ => rfl) (pk_cons (pv 1) (pk_cons (pv 0) pk_nil))) pa_nil)))) (blkOk_by (own := [(("_law_e" : Str), 3)]) (N := [("_law_a" : Str), ("_law_b" : Str), ("_law_found" : Str), ("_law_e" : Str)]) (sc := defScope s_law_twos) (by decide +kernel)) (fun _ _ _ _ _ => pg_name (i := 3) sc_law_twos.nd rfl (Or.inl rfl)) (fun _ _ _ _ _ => pts_nil) (fun _ _ _ _ _ => (pe_tup (pa_cons pe_str (pa_cons (pv 3) (pa_cons (pe_tup (pa_cons (pe_efl (K := K) (pv 3)) (pa_cons (pe_efl (K := K) (pv 3)) pa_nil))) (pa_cons (pe_tup (pa_cons (pv 0) (pa_cons (pv 1) pa_nil))) pa_nil)))))))))
      (pss_cons (ps_set (i := 2) sc_law_twos.nd rfl (Or.inl rfl) (pe_op op_cat (pv 2) (pe_lc (own := [(("_law_e" : Str), 3)]) (by rfl) sc_law_twos.nd (pi_list (pe_lst (pa_cons (pe_xN (ks := []) (n := 2) C.NotBulk (hr.mono (by decide)) (by rfl) (by decide) (fun _ _ _ _ _ _ _ u us ws h1 h2 => match us, ws, h1, h2 with | [_, _], [], _, _ => rfl) (pa_cons (pv 0) (pa_cons (pv 1) pa_nil)) pk_nil) (pa_cons (pe_xN (ks := [("column" : Str)]) (n := 1) C.NotBulk (hr.mono (by decide)) (by rfl) (by decide) (fun _ _ _ _ _ _ _ u us ws h1 h2 => match us, ws, h1, h2 with | [_], [_], _, _ => rfl) (pa_cons (pv 0) pa_nil) (pk_cons (pv 1) pk_nil)) pa_nil)))) (blkOk_by (own := [(("_law_e" : Str), 3)]) (N := [("_law_a" : Str), ("_law_b" : Str), ("_law_found" : Str), ("_law_e" : Str)]) (sc := defScope s_law_twos) (by decide +kernel)) (fun _ _ _ _ _ => pg_name (i := 3) sc_law_twos.nd rfl (Or.inl rfl)) (fun _ _ _ _ _ => pts_nil) (fun _ _ _ _ _ => (pe_tup (pa_cons pe_str (pa_cons (pv 3) (pa_cons (pe_tup (pa_cons (pe_efl (K := K) (pv 3)) (pa_cons (pe_efl (K := K) (pv 3)) pa_nil))) (pa_cons (pe_tup (pa_cons (pv 0) (pa_cons (pv 1) pa_nil))) pa_nil)))))))))
      (pss_cons (ps_set (i := 2) sc_law_twos.nd rfl (Or.inl rfl) (pe_op op_cat (pv 2) (pe_lc (own := [(("_law_e" : Str), 3)]) (by rfl) sc_law_twos.nd (pi_list (pe_lst (pa_cons (pe_xN (ks := []) (n := 2) C.Mismatch (hr.mono (by decide)) (by rfl) (by decide) (fun _ _ _ _ _ _ _ u us ws h1 h2 => match us, ws, h1, h2 with | [_, _], [], _, _ => rfl) (pa_cons (pv 0) (pa_cons (pv 1) pa_nil)) pk_nil) (pa_cons (pe_xN (ks := [("second" : Str)]) (n := 1) C.Mismatch (hr.mono (by decide)) (by rfl) (by decide) (fun _ _ _ _ _ _ _ u us ws h1 h2 => match us, ws, h1, h2 with | [_], [_], _, _ => rfl) (pa_cons (pv 0) pa_nil) (pk_cons (pv 1) pk_nil)) pa_nil)))) (blkOk_by (own := [(("_law_e" : Str), 3)]) (N := [("_law_a" : Str), ("_law_b" : Str), ("_law_found" : Str), ("_law_e" : Str)]) (sc := defScope s_law_twos) (by decide +kernel)) (fun _ _ _ _ _ => pg_name (i := 3) sc_law_twos.nd rfl (Or.inl rfl)) (fun _ _ _ _ _ => pts_nil) (fun _ _ _ _ _ => (pe_tup (pa_cons pe_str (pa_cons (pv 3) (pa_cons (pe_tup (pa_cons (pe_efl (K := K) (pv 3)) (pa_cons (pe_efl (K := K) (pv 3)) pa_nil))) (pa_cons (pe_tup (pa_cons (pv 0) (pa_cons (pv 1) pa_nil))) pa_nil)))))))))
      (pss_cons (ps_set (i := 2) sc_law_twos.nd rfl (Or.inl rfl) (pe_op op_cat (pv 2) (pe_lc (own := [(("_law_e" : Str), 3)]) (by rfl) sc_law_twos.nd (pi_list (pe_lst (pa_cons (pe_xN (ks := []) (n := 2) C.BadBook (hr.mono (by decide)) (by rfl) (by decide) (fun _ _ _ _ _ _ _ u us ws h1 h2 => match us, ws, h1, h2 with | [_, _], [], _, _ => rfl) (pa_cons (pv 0) (pa_cons (pv 1) pa_nil)) pk_nil) (pa_cons (pe_x0 (ks := [("at" : Str), ("what" : Str)]) C.BadBook (hr.mono (by decide)) (by rfl) (fun _ _ _ _ _ _ _ u us ws h1 h2 => match us, ws, h1, h2 with | [], [_, _], _, _ => rfl) (pk_cons (pv 1) (pk_cons (pv 0) pk_nil))) pa_nil)))) (blkOk_by (own := [(("_law_e" : Str), 3)]) (N := [("_law_a" : Str), ("_law_b" : Str), ("_law_found" : Str), ("_law_e" : Str)]) (sc := defScope s_law_twos) (by decide +kernel)) (fun _ _ _ _ _ => pg_name (i := 3) sc_law_twos.nd rfl (Or.inl rfl)) (fun _ _ _ _ _ => pts_nil) (fun _ _ _ _ _ => (pe_tup (pa_cons pe_str (pa_cons (pv 3) (pa_cons (pe_tup (pa_cons (pe_efl (K := K) (pv 3)) (pa_cons (pe_efl (K := K) (pv 3)) pa_nil))) (pa_cons (pe_tup (pa_cons (pv 0) (pa_cons (pv 1) pa_nil))) pa_nil)))))))))
      (pss_cons (ps_set (i := 2) sc_law_twos.nd rfl (Or.inl rfl) (pe_op op_cat (pv 2) (pe_lc (own := [(("_law_e" : Str), 3)]) (by rfl) sc_law_twos.nd (pi_list (pe_lst (pa_cons (pe_xN (ks := []) (n := 2) C.NoDocument (hr.mono (by decide)) (by rfl) (by decide) (fun _ _ _ _ _ _ _ u us ws h1 h2 => match us, ws, h1, h2 with | [_, _], [], _, _ => rfl) (pa_cons (pv 0) (pa_cons (pv 1) pa_nil)) pk_nil) (pa_cons (pe_xN (ks := [("key" : Str)]) (n := 1) C.NoDocument (hr.mono (by decide)) (by rfl) (by decide) (fun _ _ _ _ _ _ _ u us ws h1 h2 => match us, ws, h1, h2 with | [_], [_], _, _ => rfl) (pa_cons (pv 0) pa_nil) (pk_cons (pv 1) pk_nil)) pa_nil)))) (blkOk_by (own := [(("_law_e" : Str), 3)]) (N := [("_law_a" : Str), ("_law_b" : Str), ("_law_found" : Str), ("_law_e" : Str)]) (sc := defScope s_law_twos) (by decide +kernel)) (fun _ _ _ _ _ => pg_name (i := 3) sc_law_twos.nd rfl (Or.inl rfl)) (fun _ _ _ _ _ => pts_nil) (fun _ _ _ _ _ => (pe_tup (pa_cons pe_str (pa_cons (pv 3) (pa_cons (pe_tup (pa_cons (pe_efl (K := K) (pv 3)) (pa_cons (pe_efl (K := K) (pv 3)) pa_nil))) (pa_cons (pe_tup (pa_cons (pv 0) (pa_cons (pv 1) pa_nil))) pa_nil)))))))))
      (pss_cons (ps_set (i := 2) sc_law_twos.nd rfl (Or.inl rfl) (pe_op op_cat (pv 2) (pe_lc (own := [(("_law_e" : Str), 3)]) (by rfl) sc_law_twos.nd (pi_list (pe_lst (pa_cons (pe_xN (ks := []) (n := 2) C.Refused (hr.mono (by decide)) (by rfl) (by decide) (fun _ _ _ _ _ _ _ u us ws h1 h2 => match us, ws, h1, h2 with | [_, _], [], _, _ => rfl) (pa_cons (pv 0) (pa_cons (pv 1) pa_nil)) pk_nil) (pa_cons (pe_x0 (ks := [("why" : Str), ("at" : Str)]) C.Refused (hr.mono (by decide)) (by rfl) (fun _ _ _ _ _ _ _ u us ws h1 h2 => match us, ws, h1, h2 with | [], [_, _], _, _ => rfl) (pk_cons (pv 1) (pk_cons (pv 0) pk_nil))) pa_nil)))) (blkOk_by (own := [(("_law_e" : Str), 3)]) (N := [("_law_a" : Str), ("_law_b" : Str), ("_law_found" : Str), ("_law_e" : Str)]) (sc := defScope s_law_twos) (by decide +kernel)) (fun _ _ _ _ _ => pg_name (i := 3) sc_law_twos.nd rfl (Or.inl rfl)) (fun _ _ _ _ _ => pts_nil) (fun _ _ _ _ _ => (pe_tup (pa_cons pe_str (pa_cons (pv 3) (pa_cons (pe_tup (pa_cons (pe_efl (K := K) (pv 3)) (pa_cons (pe_efl (K := K) (pv 3)) pa_nil))) (pa_cons (pe_tup (pa_cons (pv 0) (pa_cons (pv 1) pa_nil))) pa_nil)))))))))
      (pss_one (ps_ret (pe_op op_cat (pv 2) (pe_lc (own := [(("_law_e" : Str), 3)]) (by rfl) sc_law_twos.nd (pi_list (pe_lst (pa_cons (pe_xN (ks := []) (n := 2) C.Failed (hr.mono (by decide)) (by rfl) (by decide) (fun _ _ _ _ _ _ _ u us ws h1 h2 => match us, ws, h1, h2 with | [_, _], [], _, _ => rfl) (pa_cons (pv 0) (pa_cons (pv 1) pa_nil)) pk_nil) (pa_cons (pe_x0 (ks := [("why" : Str), ("at" : Str)]) C.Failed (hr.mono (by decide)) (by rfl) (fun _ _ _ _ _ _ _ u us ws h1 h2 => match us, ws, h1, h2 with | [], [_, _], _, _ => rfl) (pk_cons (pv 1) (pk_cons (pv 0) pk_nil))) pa_nil)))) (blkOk_by (own := [(("_law_e" : Str), 3)]) (N := [("_law_a" : Str), ("_law_b" : Str), ("_law_found" : Str), ("_law_e" : Str)]) (sc := defScope s_law_twos) (by decide +kernel)) (fun _ _ _ _ _ => pg_name (i := 3) sc_law_twos.nd rfl (Or.inl rfl)) (fun _ _ _ _ _ => pts_nil) (fun _ _ _ _ _ => (pe_tup (pa_cons pe_str (pa_cons (pv 3) (pa_cons (pe_tup (pa_cons (pe_efl (K := K) (pv 3)) (pa_cons (pe_efl (K := K) (pv 3)) pa_nil))) (pa_cons (pe_tup (pa_cons (pv 0) (pa_cons (pv 1) pa_nil))) pa_nil))))))))))))))))))), ?_⟩
    have hv : ∀ u ∈ [a, b], ValAt H u := fun u hu => by
      rcases List.mem_cons.mp hu with z | z
      · rw [z]
        exact va
      · rw [List.mem_singleton.mp z]
        exact vb
    refine as_ ?_
    refine rows_two (K := K) (ns := cns) (nm := ("NoColumn" : Str)) (l := [(("column" : Str), b), (("table" : Str), a)]) (us := [a, b]) (by decide +kernel) (by show 2 ≤ 3; decide) (fun u hu => (hv u hu)) (by show 3 < 4; decide) (fun _ _ q => ⟨_, rfl, _, rfl, rfl, rfl, rfl, q⟩) (fun _ _ q => ⟨_, rfl, _, rfl, rfl, rfl, rfl, q⟩) (fun _ e _ he q => ⟨_, rfl, e, _, _, a, rfl, he, C.NoColumn.xf, C.NoColumn.no (by decide +kernel), rfl, _, rfl, e, _, _, b, rfl, he, C.NoColumn.xf, C.NoColumn.no (by decide +kernel), rfl, q⟩) (fun _ _ _ q => ⟨_, rfl, _, rfl, q⟩) (fun D0 H0 s0 r0 => ?_)
    refine as_ (op_ (var_ rfl ?_))
    refine rows_two (K := K) (ns := cns) (nm := ("NoRow" : Str)) (l := [(("key" : Str), b), (("table" : Str), a)]) (us := [a, b]) (by decide +kernel) (by show 2 ≤ 3; decide) (fun u hu => (hv u hu).same s0) (by show 3 < 4; decide) (fun _ _ q => ⟨_, rfl, _, rfl, rfl, rfl, rfl, q⟩) (fun _ _ q => ⟨_, rfl, _, rfl, rfl, rfl, rfl, q⟩) (fun _ e _ he q => ⟨_, rfl, e, _, _, a, rfl, he, C.NoRow.xf, C.NoRow.no (by decide +kernel), rfl, _, rfl, e, _, _, b, rfl, he, C.NoRow.xf, C.NoRow.no (by decide +kernel), rfl, q⟩) (fun _ _ _ q => ⟨_, rfl, _, rfl, q⟩) (fun D1a H1a s1a r1a => rows_cat (r0.same s1a) r1a (by decide) (fun D1 H1 s1 r1 => ?_))
    have z1 := (s0).trans (s1a.trans s1)
    refine as_ (op_ (var_ rfl ?_))
    refine rows_two (K := K) (ns := cns) (nm := ("Taken" : Str)) (l := [(("key" : Str), b), (("table" : Str), a)]) (us := [a, b]) (by decide +kernel) (by show 2 ≤ 3; decide) (fun u hu => (hv u hu).same z1) (by show 3 < 4; decide) (fun _ _ q => ⟨_, rfl, _, rfl, rfl, rfl, rfl, q⟩) (fun _ _ q => ⟨_, rfl, _, rfl, rfl, rfl, rfl, q⟩) (fun _ e _ he q => ⟨_, rfl, e, _, _, a, rfl, he, C.Taken.xf, C.Taken.no (by decide +kernel), rfl, _, rfl, e, _, _, b, rfl, he, C.Taken.xf, C.Taken.no (by decide +kernel), rfl, q⟩) (fun _ _ _ q => ⟨_, rfl, _, rfl, q⟩) (fun D2a H2a s2a r2a => rows_cat (r1.same s2a) r2a (by decide) (fun D2 H2 s2 r2 => ?_))
    have z2 := (z1).trans (s2a.trans s2)
    refine as_ (op_ (var_ rfl ?_))
    refine rows_two (K := K) (ns := cns) (nm := ("Held" : Str)) (l := [(("key" : Str), b), (("table" : Str), a)]) (us := [a, b]) (by decide +kernel) (by show 2 ≤ 3; decide) (fun u hu => (hv u hu).same z2) (by show 3 < 4; decide) (fun _ _ q => ⟨_, rfl, _, rfl, rfl, rfl, rfl, q⟩) (fun _ _ q => ⟨_, rfl, _, rfl, rfl, rfl, rfl, q⟩) (fun _ e _ he q => ⟨_, rfl, e, _, _, a, rfl, he, C.Held.xf, C.Held.no (by decide +kernel), rfl, _, rfl, e, _, _, b, rfl, he, C.Held.xf, C.Held.no (by decide +kernel), rfl, q⟩) (fun _ _ _ q => ⟨_, rfl, _, rfl, q⟩) (fun D3a H3a s3a r3a => rows_cat (r2.same s3a) r3a (by decide) (fun D3 H3 s3 r3 => ?_))
    have z3 := (z2).trans (s3a.trans s3)
    refine as_ (op_ (var_ rfl ?_))
    refine rows_two (K := K) (ns := cns) (nm := ("NotBulk" : Str)) (l := [(("column" : Str), b), (("table" : Str), a)]) (us := [a, b]) (by decide +kernel) (by show 2 ≤ 3; decide) (fun u hu => (hv u hu).same z3) (by show 3 < 4; decide) (fun _ _ q => ⟨_, rfl, _, rfl, rfl, rfl, rfl, q⟩) (fun _ _ q => ⟨_, rfl, _, rfl, rfl, rfl, rfl, q⟩) (fun _ e _ he q => ⟨_, rfl, e, _, _, a, rfl, he, C.NotBulk.xf, C.NotBulk.no (by decide +kernel), rfl, _, rfl, e, _, _, b, rfl, he, C.NotBulk.xf, C.NotBulk.no (by decide +kernel), rfl, q⟩) (fun _ _ _ q => ⟨_, rfl, _, rfl, q⟩) (fun D4a H4a s4a r4a => rows_cat (r3.same s4a) r4a (by decide) (fun D4 H4 s4 r4 => ?_))
    have z4 := (z3).trans (s4a.trans s4)
    refine as_ (op_ (var_ rfl ?_))
    refine rows_two (K := K) (ns := cns) (nm := ("Mismatch" : Str)) (l := [(("second" : Str), b), (("first" : Str), a)]) (us := [a, b]) (by decide +kernel) (by show 2 ≤ 3; decide) (fun u hu => (hv u hu).same z4) (by show 3 < 4; decide) (fun _ _ q => ⟨_, rfl, _, rfl, rfl, rfl, rfl, q⟩) (fun _ _ q => ⟨_, rfl, _, rfl, rfl, rfl, rfl, q⟩) (fun _ e _ he q => ⟨_, rfl, e, _, _, a, rfl, he, C.Mismatch.xf, C.Mismatch.no (by decide +kernel), rfl, _, rfl, e, _, _, b, rfl, he, C.Mismatch.xf, C.Mismatch.no (by decide +kernel), rfl, q⟩) (fun _ _ _ q => ⟨_, rfl, _, rfl, q⟩) (fun D5a H5a s5a r5a => rows_cat (r4.same s5a) r5a (by decide) (fun D5 H5 s5 r5 => ?_))
    have z5 := (z4).trans (s5a.trans s5)
    refine as_ (op_ (var_ rfl ?_))
    refine rows_two (K := K) (ns := cns) (nm := ("BadBook" : Str)) (l := [(("at" : Str), b), (("what" : Str), a)]) (us := [a, b]) (by decide +kernel) (by show 2 ≤ 3; decide) (fun u hu => (hv u hu).same z5) (by show 3 < 4; decide) (fun _ _ q => ⟨_, rfl, _, rfl, rfl, rfl, rfl, q⟩) (fun _ _ q => ⟨_, rfl, _, rfl, rfl, rfl, rfl, q⟩) (fun _ e _ he q => ⟨_, rfl, e, _, _, a, rfl, he, C.BadBook.xf, C.BadBook.no (by decide +kernel), rfl, _, rfl, e, _, _, b, rfl, he, C.BadBook.xf, C.BadBook.no (by decide +kernel), rfl, q⟩) (fun _ _ _ q => ⟨_, rfl, _, rfl, q⟩) (fun D6a H6a s6a r6a => rows_cat (r5.same s6a) r6a (by decide) (fun D6 H6 s6 r6 => ?_))
    have z6 := (z5).trans (s6a.trans s6)
    refine as_ (op_ (var_ rfl ?_))
    refine rows_two (K := K) (ns := cns) (nm := ("NoDocument" : Str)) (l := [(("key" : Str), b), (("name" : Str), a)]) (us := [a, b]) (by decide +kernel) (by show 2 ≤ 3; decide) (fun u hu => (hv u hu).same z6) (by show 3 < 4; decide) (fun _ _ q => ⟨_, rfl, _, rfl, rfl, rfl, rfl, q⟩) (fun _ _ q => ⟨_, rfl, _, rfl, rfl, rfl, rfl, q⟩) (fun _ e _ he q => ⟨_, rfl, e, _, _, a, rfl, he, C.NoDocument.xf, C.NoDocument.no (by decide +kernel), rfl, _, rfl, e, _, _, b, rfl, he, C.NoDocument.xf, C.NoDocument.no (by decide +kernel), rfl, q⟩) (fun _ _ _ q => ⟨_, rfl, _, rfl, q⟩) (fun D7a H7a s7a r7a => rows_cat (r6.same s7a) r7a (by decide) (fun D7 H7 s7 r7 => ?_))
    have z7 := (z6).trans (s7a.trans s7)
    refine as_ (op_ (var_ rfl ?_))
    refine rows_two (K := K) (ns := cns) (nm := ("Refused" : Str)) (l := [(("why" : Str), b), (("at" : Str), a)]) (us := [a, b]) (by decide +kernel) (by show 2 ≤ 3; decide) (fun u hu => (hv u hu).same z7) (by show 3 < 4; decide) (fun _ _ q => ⟨_, rfl, _, rfl, rfl, rfl, rfl, q⟩) (fun _ _ q => ⟨_, rfl, _, rfl, rfl, rfl, rfl, q⟩) (fun _ e _ he q => ⟨_, rfl, e, _, _, a, rfl, he, C.Refused.xf, C.Refused.no (by decide +kernel), rfl, _, rfl, e, _, _, b, rfl, he, C.Refused.xf, C.Refused.no (by decide +kernel), rfl, q⟩) (fun _ _ _ q => ⟨_, rfl, _, rfl, q⟩) (fun D8a H8a s8a r8a => rows_cat (r7.same s8a) r8a (by decide) (fun D8 H8 s8 r8 => ?_))
    have z8 := (z7).trans (s8a.trans s8)
    refine ret_ (op_ (var_ rfl ?_))
    refine rows_two (K := K) (ns := cns) (nm := ("Failed" : Str)) (l := [(("why" : Str), b), (("at" : Str), a)]) (us := [a, b]) (by decide +kernel) (by show 2 ≤ 3; decide) (fun u hu => (hv u hu).same z8) (by show 3 < 4; decide) (fun _ _ q => ⟨_, rfl, _, rfl, rfl, rfl, rfl, q⟩) (fun _ _ q => ⟨_, rfl, _, rfl, rfl, rfl, rfl, q⟩) (fun _ e _ he q => ⟨_, rfl, e, _, _, a, rfl, he, C.Failed.xf, C.Failed.no (by decide +kernel), rfl, _, rfl, e, _, _, b, rfl, he, C.Failed.xf, C.Failed.no (by decide +kernel), rfl, q⟩) (fun _ _ _ q => ⟨_, rfl, _, rfl, q⟩) (fun D9a H9a s9a r9a => rows_cat (r8.same s9a) r9a (by decide) (fun D9 H9 s9 r9 => k _ _ (z8.trans (s9a.trans s9)) (by obtain ⟨rows, q1, q2, q3⟩ := r9; exact ⟨rows, q1, by omega, q3⟩)))
end
end Ow

/-! k01.6: errors made, further -/
namespace Ow
open PySem PySem.Spec L2
section
variable {P : Program} {w : World} {K : PySem.W.Frag} {mg : Str → Option Value} {base : Heap}
theorem sc_law_threes : FnScope [("_law_a" : Str), ("_law_b" : Str), ("_law_c" : Str), ("_law_cells" : Str), ("_law_found" : Str), ("_law_e" : Str), ("_law_longs" : Str)] [("_law_a" : Str), ("_law_b" : Str), ("_law_c" : Str)] (defScope s_law_threes) := ⟨rfl, rfl, rfl, by decide +kernel, rfl, by decide +kernel, by decide +kernel⟩
theorem ok_threes (D : TopD K mg "_law_threes" s_law_threes) (T : Blt mg) (C : Cls P K mg) : FnAt P w K mg base "_law_threes" [("_law_a" : Str), ("_law_b" : Str), ("_law_c" : Str)] 3 (spThrees K) := by
  refine fn_at D sc_law_threes (fun _ _ _ _ _ _ us hl => match us, hl with | [_, _, _], _ => rfl) (fun vs H Q E h => ?_) (fun f cdv A outer s H vs Q E hr h => ?_)
  · obtain ⟨a, b, c, rfl, _⟩ := h
    rfl
  · obtain ⟨a, b, c, rfl, va, vb, vc, k⟩ := h
    refine ⟨_, (pss_cons (ps_set (i := 3) sc_law_threes.nd rfl (Or.inl rfl) (pe_lst (pa_cons (pe_xN (ks := []) (n := 3) C.BadCell (hr.mono (by decide)) (by rfl) (by decide) (fun _ _ _ _ _ _ _ u us ws h1 h2 => match us, ws, h1, h2 with | [_, _, _], [], _, _ => rfl) (pa_cons (pv 0) (pa_cons (pv 1) (pa_cons (pv 2) pa_nil))) pk_nil) (pa_cons (pe_x0 (ks := [("cell" : Str), ("column" : Str), ("table" : Str)]) C.BadCell (hr.mono (by decide)) (by rfl) (fun _ _ _ _ _ _ _ u us ws h1 h2 => match us, ws, h1, h2 with | [], [_, _, _], _, _ => rfl) (pk_cons (pv 2) (pk_cons (pv 1) (pk_cons (pv 0) pk_nil)))) pa_nil))))
      (pss_cons (ps_setLc (i := 4) (own := [(("_law_e" : Str), 5)]) (by rfl) sc_law_threes.nd rfl rfl (sw_true rfl rfl rfl (by decide +kernel)) (pi_list (pv 3)) (blkOk_by (own := [(("_law_e" : Str), 5)]) (N := [("_law_a" : Str), ("_law_b" : Str), ("_law_c" : Str), ("_law_cells" : Str), ("_law_found" : Str), ("_law_e" : Str), ("_law_longs" : Str)]) (sc := defScope s_law_threes) (by decide +kernel)) (fun _ _ _ _ _ => pg_name (i := 5) sc_law_threes.nd rfl (Or.inl rfl)) (fun _ _ _ _ _ => pts_nil) (fun _ _ _ _ _ => (pe_tup (pa_cons pe_str (pa_cons (pv 5) (pa_cons (pe_tup (pa_cons (pe_efl (K := K) (pv 5)) (pa_cons (pe_efl (K := K) (pv 5)) (pa_cons (pe_efl (K := K) (pv 5)) pa_nil)))) (pa_cons (pe_tup (pa_cons (pv 0) (pa_cons (pv 1) (pa_cons (pv 2) pa_nil)))) pa_nil)))))))
      (pss_cons (ps_set (i := 6) sc_law_threes.nd rfl (Or.inl rfl) (pe_lst (pa_cons (pe_xN (ks := []) (n := 3) C.TooLong (hr.mono (by decide)) (by rfl) (by decide) (fun _ _ _ _ _ _ _ u us ws h1 h2 => match us, ws, h1, h2 with | [_, _, _], [], _, _ => rfl) (pa_cons (pv 0) (pa_cons (pv 1) (pa_cons (pv 2) pa_nil))) pk_nil) (pa_cons (pe_xN (ks := [("most" : Str), ("key" : Str)]) (n := 1) C.TooLong (hr.mono (by decide)) (by rfl) (by decide) (fun _ _ _ _ _ _ _ u us ws h1 h2 => match us, ws, h1, h2 with | [_], [_, _], _, _ => rfl) (pa_cons (pv 0) pa_nil) (pk_cons (pv 2) (pk_cons (pv 1) pk_nil))) pa_nil))))
      (pss_one (ps_ret (pe_op op_cat (pv 4) (pe_lc (own := [(("_law_e" : Str), 5)]) (by rfl) sc_law_threes.nd (pi_list (pv 6)) (blkOk_by (own := [(("_law_e" : Str), 5)]) (N := [("_law_a" : Str), ("_law_b" : Str), ("_law_c" : Str), ("_law_cells" : Str), ("_law_found" : Str), ("_law_e" : Str), ("_law_longs" : Str)]) (sc := defScope s_law_threes) (by decide +kernel)) (fun _ _ _ _ _ => pg_name (i := 5) sc_law_threes.nd rfl (Or.inl rfl)) (fun _ _ _ _ _ => pts_nil) (fun _ _ _ _ _ => (pe_tup (pa_cons pe_str (pa_cons (pv 5) (pa_cons (pe_tup (pa_cons (pe_efl (K := K) (pv 5)) (pa_cons (pe_efl (K := K) (pv 5)) (pa_cons (pe_efl (K := K) (pv 5)) pa_nil)))) (pa_cons (pe_tup (pa_cons (pv 0) (pa_cons (pv 1) (pa_cons (pv 2) pa_nil)))) pa_nil))))))))))))), ?_⟩
    have hv : ∀ u ∈ [a, b, c], ValAt H u := fun u hu => by
      simp only [List.mem_cons, List.not_mem_nil, or_false] at hu
      rcases hu with rfl | rfl | rfl
      · exact va
      · exact vb
      · exact vc
    refine as_ ⟨_, rfl, _, rfl, _, rfl, rfl, rfl, rfl, fun e1 H1 n1 s1 x1 => ?_⟩
    refine ⟨_, rfl, _, rfl, _, rfl, rfl, rfl, rfl, fun e2 H2 n2 s2 x2 => ⟨by show 2 ≤ sizeLine; decide, fun L nL => ?_⟩⟩
    have s3 := same_new (o := .lst [.ref e1, .ref e2]) nL
    have z1 := s1.trans (s2.trans s3)
    refine as_ (lc_over rfl ⟨_, SqL.of upd_same⟩ (rows_e (K := K) (ns := cns) (nm := ("BadCell" : Str)) (l := [(("cell" : Str), c), (("column" : Str), b), (("table" : Str), a)]) (us := [a, b, c]) (xs := [.ref e1, .ref e2]) upd_same (by show 2 ≤ 1000; decide) (by decide +kernel) (by show 3 ≤ 3; decide) (fun u hu => (hv u hu).same z1) (by show 5 < 7; decide) (fun x hx => ?_) (fun _ e _ he q => ⟨_, rfl, e, _, _, a, rfl, he, C.BadCell.xf, C.BadCell.no (by decide +kernel), rfl, _, rfl, e, _, _, b, rfl, he, C.BadCell.xf, C.BadCell.no (by decide +kernel), rfl, _, rfl, e, _, _, c, rfl, he, C.BadCell.xf, C.BadCell.no (by decide +kernel), rfl, q⟩) (fun _ _ _ q => ⟨_, rfl, _, rfl, _, rfl, q⟩) (fun D1 H3 s4 r1 => ?_)))
    · simp only [List.mem_cons, List.not_mem_nil, or_false] at hx
      rcases hx with rfl | rfl
      · exact ⟨e1, rfl, x1.same (s2.trans s3)⟩
      · exact ⟨e2, rfl, x2.same s3⟩
    have z2 := z1.trans s4
    refine as_ ⟨_, rfl, _, rfl, _, rfl, rfl, rfl, rfl, fun e3 H4 n4 s5 x3 => ?_⟩
    refine ⟨_, rfl, _, rfl, _, rfl, rfl, rfl, rfl, fun e4 H5 n5 s6 x4 => ⟨by show 2 ≤ sizeLine; decide, fun M nM => ?_⟩⟩
    have s7 := same_new (o := .lst [.ref e3, .ref e4]) nM
    have z3 := z2.trans (s5.trans (s6.trans s7))
    refine ret_ (op_ (var_ rfl (lc_over rfl ⟨_, SqL.of upd_same⟩ (rows_e (K := K) (ns := cns) (nm := ("TooLong" : Str)) (l := [(("most" : Str), c), (("key" : Str), b), (("name" : Str), a)]) (us := [a, b, c]) (xs := [.ref e3, .ref e4]) upd_same (by show 2 ≤ 1000; decide) (by decide +kernel) (by show 3 ≤ 3; decide) (fun u hu => (hv u hu).same z3) (by show 5 < 7; decide) (fun x hx => ?_) (fun _ e _ he q => ⟨_, rfl, e, _, _, a, rfl, he, C.TooLong.xf, C.TooLong.no (by decide +kernel), rfl, _, rfl, e, _, _, b, rfl, he, C.TooLong.xf, C.TooLong.no (by decide +kernel), rfl, _, rfl, e, _, _, c, rfl, he, C.TooLong.xf, C.TooLong.no (by decide +kernel), rfl, q⟩) (fun _ _ _ q => ⟨_, rfl, _, rfl, _, rfl, q⟩) (fun D2 H6 s8 r2 => ?_)))))
    · simp only [List.mem_cons, List.not_mem_nil, or_false] at hx
      rcases hx with rfl | rfl
      · exact ⟨e3, rfl, x3.same (s6.trans s7)⟩
      · exact ⟨e4, rfl, x4.same s7⟩
    refine rows_cat (n := 2) (m := 2) (r1.same (s5.trans (s6.trans (s7.trans s8)))) r2 (by decide) (fun D3 H7 s9 r3 => k _ _ (z3.trans (s8.trans s9)) ?_)
    obtain ⟨rows, q1, q2, q3⟩ := r3
    exact ⟨rows, q1, by omega, q3⟩
theorem sc_law_ats : FnScope [("_law_a" : Str), ("_law_made" : Str), ("_law_name" : Str), ("_law_e" : Str)] [("_law_a" : Str)] (defScope s_law_ats) := ⟨rfl, rfl, rfl, by decide +kernel, rfl, by decide +kernel, by decide +kernel⟩
theorem at_fields {nm : Str} (C : Cls P K mg) (h : nm ∈ (["BadSchema", "BadStore", "BadWay", "BadDocument", "BadLine"] : List Str)) : XfC K (He.ga K nm) ∧ PySem.W.findIn K (.ref (He.ga K nm)) "at" = some none := by
  simp only [List.mem_cons, List.not_mem_nil, or_false] at h
  rcases h with rfl | rfl | rfl | rfl | rfl
  · exact ⟨C.BadSchema.xf, C.BadSchema.no (by decide +kernel)⟩
  · exact ⟨C.BadStore.xf, C.BadStore.no (by decide +kernel)⟩
  · exact ⟨C.BadWay.xf, C.BadWay.no (by decide +kernel)⟩
  · exact ⟨C.BadDocument.xf, C.BadDocument.no (by decide +kernel)⟩
  · exact ⟨C.BadLine.xf, C.BadLine.no (by decide +kernel)⟩
def ats : List Str := ["BadSchema", "BadStore", "BadWay", "BadDocument", "BadLine"]
theorem ats_in {nm : Str} (h : nm ∈ ats) : nm ∈ cns := by
  have e : ats.all (fun x => decide (x ∈ cns)) = true := by decide +kernel
  exact of_decide_eq_true (List.all_eq_true.mp e nm h)
theorem ok_ats (D : TopD K mg "_law_ats" s_law_ats) (T : Blt mg) (C : Cls P K mg) : FnAt P w K mg base "_law_ats" [("_law_a" : Str)] 3 (spAts K) := by
  refine fn_at D sc_law_ats (fun _ _ _ _ _ _ us hl => match us, hl with | [_], _ => rfl) (fun vs H Q E h => ?_) (fun f cdv A outer s H vs Q E hr h => ?_)
  · obtain ⟨a, rfl, _⟩ := h
    rfl
  · obtain ⟨a, rfl, va, k⟩ := h
    refine ⟨_, (pss_cons (ps_set (i := 1) sc_law_ats.nd rfl (Or.inl rfl) (pe_lst (pa_cons (pe_tup (pa_cons pe_str (pa_cons (pe_xN (ks := []) (n := 1) C.BadSchema (hr.mono (by decide)) (by rfl) (by decide) (fun _ _ _ _ _ _ _ u us ws h1 h2 => match us, ws, h1, h2 with | [_], [], _, _ => rfl) (pa_cons (pv 0) pa_nil) pk_nil) pa_nil))) (pa_cons (pe_tup (pa_cons pe_str (pa_cons (pe_x0 (ks := [("at" : Str)]) C.BadSchema (hr.mono (by decide)) (by rfl) (fun _ _ _ _ _ _ _ u us ws h1 h2 => match us, ws, h1, h2 with | [], [_], _, _ => rfl) (pk_cons (pv 0) pk_nil)) pa_nil))) (pa_cons (pe_tup (pa_cons pe_str (pa_cons (pe_xN (ks := []) (n := 1) C.BadStore (hr.mono (by decide)) (by rfl) (by decide) (fun _ _ _ _ _ _ _ u us ws h1 h2 => match us, ws, h1, h2 with | [_], [], _, _ => rfl) (pa_cons (pv 0) pa_nil) pk_nil) pa_nil))) pa_nil)))))
      (pss_cons (ps_set (i := 1) sc_law_ats.nd rfl (Or.inl rfl) (pe_op op_cat (pv 1) (pe_lst (pa_cons (pe_tup (pa_cons pe_str (pa_cons (pe_x0 (ks := [("at" : Str)]) C.BadStore (hr.mono (by decide)) (by rfl) (fun _ _ _ _ _ _ _ u us ws h1 h2 => match us, ws, h1, h2 with | [], [_], _, _ => rfl) (pk_cons (pv 0) pk_nil)) pa_nil))) (pa_cons (pe_tup (pa_cons pe_str (pa_cons (pe_xN (ks := []) (n := 1) C.BadWay (hr.mono (by decide)) (by rfl) (by decide) (fun _ _ _ _ _ _ _ u us ws h1 h2 => match us, ws, h1, h2 with | [_], [], _, _ => rfl) (pa_cons (pv 0) pa_nil) pk_nil) pa_nil))) (pa_cons (pe_tup (pa_cons pe_str (pa_cons (pe_x0 (ks := [("at" : Str)]) C.BadWay (hr.mono (by decide)) (by rfl) (fun _ _ _ _ _ _ _ u us ws h1 h2 => match us, ws, h1, h2 with | [], [_], _, _ => rfl) (pk_cons (pv 0) pk_nil)) pa_nil))) pa_nil))))))
      (pss_cons (ps_set (i := 1) sc_law_ats.nd rfl (Or.inl rfl) (pe_op op_cat (pv 1) (pe_lst (pa_cons (pe_tup (pa_cons pe_str (pa_cons (pe_xN (ks := []) (n := 1) C.BadDocument (hr.mono (by decide)) (by rfl) (by decide) (fun _ _ _ _ _ _ _ u us ws h1 h2 => match us, ws, h1, h2 with | [_], [], _, _ => rfl) (pa_cons (pv 0) pa_nil) pk_nil) pa_nil))) (pa_cons (pe_tup (pa_cons pe_str (pa_cons (pe_x0 (ks := [("at" : Str)]) C.BadDocument (hr.mono (by decide)) (by rfl) (fun _ _ _ _ _ _ _ u us ws h1 h2 => match us, ws, h1, h2 with | [], [_], _, _ => rfl) (pk_cons (pv 0) pk_nil)) pa_nil))) pa_nil)))))
      (pss_cons (ps_set (i := 1) sc_law_ats.nd rfl (Or.inl rfl) (pe_op op_cat (pv 1) (pe_lst (pa_cons (pe_tup (pa_cons pe_str (pa_cons (pe_xN (ks := []) (n := 1) C.BadLine (hr.mono (by decide)) (by rfl) (by decide) (fun _ _ _ _ _ _ _ u us ws h1 h2 => match us, ws, h1, h2 with | [_], [], _, _ => rfl) (pa_cons (pv 0) pa_nil) pk_nil) pa_nil))) (pa_cons (pe_tup (pa_cons pe_str (pa_cons (pe_x0 (ks := [("at" : Str)]) C.BadLine (hr.mono (by decide)) (by rfl) (fun _ _ _ _ _ _ _ u us ws h1 h2 => match us, ws, h1, h2 with | [], [_], _, _ => rfl) (pk_cons (pv 0) pk_nil)) pa_nil))) pa_nil)))))
      (pss_one (ps_ret (pe_lc (own := [(("_law_name" : Str), 2), (("_law_e" : Str), 3)]) (by rfl) sc_law_ats.nd (pi_list (pv 1)) (blkOk_by (own := [(("_law_name" : Str), 2), (("_law_e" : Str), 3)]) (N := [("_law_a" : Str), ("_law_made" : Str), ("_law_name" : Str), ("_law_e" : Str)]) (sc := defScope s_law_ats) (by decide +kernel)) (fun _ _ _ _ _ => pg_tupK (K := K) (n := 2) rfl (pgs_cons (pg_name (i := 2) sc_law_ats.nd rfl (Or.inl rfl)) (pgs_cons (pg_name (i := 3) sc_law_ats.nd rfl (Or.inl rfl)) pgs_nil))) (fun _ _ _ _ _ => pts_nil) (fun _ _ _ _ _ => (pe_tup (pa_cons (pv 2) (pa_cons (pv 3) (pa_cons (pe_tup (pa_cons (pe_efl (K := K) (pv 3)) pa_nil)) (pa_cons (pe_tup (pa_cons (pv 0) pa_nil)) pa_nil))))))))))))), ?_⟩
    refine as_ (lst_ (made_cons (K := K) (ns := ats) (a := a) (by decide +kernel) (fun _ _ q => ⟨_, rfl, rfl, rfl, rfl, q⟩) (fun v00 H00 s00 m00 => made_cons (K := K) (ns := ats) (a := a) (by decide +kernel) (fun _ _ q => ⟨_, rfl, rfl, rfl, rfl, q⟩) (fun v01 H01 s01 m01 => made_cons (K := K) (ns := ats) (a := a) (by decide +kernel) (fun _ _ q => ⟨_, rfl, rfl, rfl, rfl, q⟩) (fun v02 H02 s02 m02 => ⟨by show 3 ≤ sizeLine; decide, fun L0 n0 => ?_⟩)))))
    have sn0 := same_new (o := .lst [v00, v01, v02]) n0
    have md0 : MadesAt K ats a _ L0 3 := ⟨[v00, v01, v02], upd_same, Nat.le_refl _, fun x hx => by
      simp only [List.mem_cons, List.not_mem_nil, or_false] at hx
      rcases hx with rfl | rfl | rfl
      · exact m00.same (s01.trans (s02.trans (sn0)))
      · exact m01.same (s02.trans (sn0))
      · exact m02.same (sn0)⟩
    have t0 := s00.trans (s01.trans (s02.trans (sn0)))
    refine as_ (op_ (var_ rfl (lst_ (made_cons (K := K) (ns := ats) (a := a) (by decide +kernel) (fun _ _ q => ⟨_, rfl, rfl, rfl, rfl, q⟩) (fun v10 H10 s10 m10 => made_cons (K := K) (ns := ats) (a := a) (by decide +kernel) (fun _ _ q => ⟨_, rfl, rfl, rfl, rfl, q⟩) (fun v11 H11 s11 m11 => made_cons (K := K) (ns := ats) (a := a) (by decide +kernel) (fun _ _ q => ⟨_, rfl, rfl, rfl, rfl, q⟩) (fun v12 H12 s12 m12 => ⟨by show 3 ≤ sizeLine; decide, fun L1 n1 => ?_⟩)))))))
    have sn1 := same_new (o := .lst [v10, v11, v12]) n1
    have md1 : MadesAt K ats a _ L1 3 := ⟨[v10, v11, v12], upd_same, Nat.le_refl _, fun x hx => by
      simp only [List.mem_cons, List.not_mem_nil, or_false] at hx
      rcases hx with rfl | rfl | rfl
      · exact m10.same (s11.trans (s12.trans (sn1)))
      · exact m11.same (s12.trans (sn1))
      · exact m12.same (sn1)⟩
    refine mades_cat (n := 3) (m := 3) (md0.same (s10.trans (s11.trans (s12.trans (sn1))))) md1 (by decide) (fun D1 HD1 sD1 c1 => ?_)
    have t1 := t0.trans ((s10.trans (s11.trans (s12.trans (sn1)))).trans sD1)
    refine as_ (op_ (var_ rfl (lst_ (made_cons (K := K) (ns := ats) (a := a) (by decide +kernel) (fun _ _ q => ⟨_, rfl, rfl, rfl, rfl, q⟩) (fun v20 H20 s20 m20 => made_cons (K := K) (ns := ats) (a := a) (by decide +kernel) (fun _ _ q => ⟨_, rfl, rfl, rfl, rfl, q⟩) (fun v21 H21 s21 m21 => ⟨by show 2 ≤ sizeLine; decide, fun L2 n2 => ?_⟩))))))
    have sn2 := same_new (o := .lst [v20, v21]) n2
    have md2 : MadesAt K ats a _ L2 2 := ⟨[v20, v21], upd_same, Nat.le_refl _, fun x hx => by
      simp only [List.mem_cons, List.not_mem_nil, or_false] at hx
      rcases hx with rfl | rfl
      · exact m20.same (s21.trans (sn2))
      · exact m21.same (sn2)⟩
    refine mades_cat (n := 6) (m := 2) (c1.same (s20.trans (s21.trans (sn2)))) md2 (by decide) (fun D2 HD2 sD2 c2 => ?_)
    have t2 := t1.trans ((s20.trans (s21.trans (sn2))).trans sD2)
    refine as_ (op_ (var_ rfl (lst_ (made_cons (K := K) (ns := ats) (a := a) (by decide +kernel) (fun _ _ q => ⟨_, rfl, rfl, rfl, rfl, q⟩) (fun v30 H30 s30 m30 => made_cons (K := K) (ns := ats) (a := a) (by decide +kernel) (fun _ _ q => ⟨_, rfl, rfl, rfl, rfl, q⟩) (fun v31 H31 s31 m31 => ⟨by show 2 ≤ sizeLine; decide, fun L3 n3 => ?_⟩))))))
    have sn3 := same_new (o := .lst [v30, v31]) n3
    have md3 : MadesAt K ats a _ L3 2 := ⟨[v30, v31], upd_same, Nat.le_refl _, fun x hx => by
      simp only [List.mem_cons, List.not_mem_nil, or_false] at hx
      rcases hx with rfl | rfl
      · exact m30.same (s31.trans (sn3))
      · exact m31.same (sn3)⟩
    refine mades_cat (n := 8) (m := 2) (c2.same (s30.trans (s31.trans (sn3)))) md3 (by decide) (fun D3 HD3 sD3 c3 => ?_)
    have t3 := t2.trans ((s30.trans (s31.trans (sn3))).trans sD3)
    obtain ⟨xs, x1, x2, x3⟩ := c3
    refine ret_ (lc_over rfl ⟨_, SqL.of x1⟩ (rows_lc (K := K) (ns := cns) (xs := xs) x1 (by omega) (fun x H' D' acc Nx hm s' hD h1 hz hN => ?_) (fun D' H' s' r => k _ _ (t3.trans s') ?_)))
    · obtain ⟨t, nm, e, rfl, ht, hn, he⟩ := x3 x hm
      obtain ⟨xf, xn⟩ := at_fields C hn
      refine ⟨t, _, rfl, SqT.of (s' _ _ ht), rfl, _, _, rfl, _, _, rfl, rfl, rfl, yes_ ?_⟩
      exact row_turn (us := [a]) (nm := nm) (e := e) (ats_in hn) (by show 1 ≤ 3; decide) (fun u hu => by rw [List.mem_singleton.mp hu]; exact va.same (t3.trans s')) (he.same s') h1 hz (fun H2 Q q => ⟨_, rfl, q⟩) (fun H2 Q q => ⟨_, rfl, q⟩)
        (fun Q q => ⟨_, rfl, e, _, _, a, rfl, he.same s', xf, xn, rfl, q⟩) (fun H2 Q q => ⟨_, rfl, q⟩) hN
    · obtain ⟨rows, q1, q2, q3⟩ := r
      exact ⟨rows, q1, by omega, q3⟩
end
end Ow

/-! k01.7: kinds -/
namespace Ow
open PySem PySem.Spec L2
section
variable {P : Program} {w : World} {K : PySem.W.Frag} {mg : Str → Option Value} {base : Heap}
theorem cns_is (C : Cls P K mg) : ∀ nm ∈ cns, EIs K (He.ga K nm) := by
  intro nm h
  have h : nm ∈ (["BadSchema", "BadStore", "BadDeed", "NoTable", "NoColumn", "NoRow", "Taken", "BadCell", "Held", "NotBulk", "TooMany", "BadWay"] : List Str) ++ (["Mismatch", "BadDocument", "BadHook", "BadBook", "Crooked", "BadLine", "NoDocument", "TooLong", "Refused", "Failed", "NotKept"] : List Str) := h
  simp only [List.mem_append, List.mem_cons, List.not_mem_nil, or_false] at h
  rcases h with (rfl | rfl | rfl | rfl | rfl | rfl | rfl | rfl | rfl | rfl | rfl | rfl) | (rfl | rfl | rfl | rfl | rfl | rfl | rfl | rfl | rfl | rfl | rfl)
  · exact C.BadSchema.is
  · exact C.BadStore.is
  · exact C.BadDeed.is
  · exact C.NoTable.is
  · exact C.NoColumn.is
  · exact C.NoRow.is
  · exact C.Taken.is
  · exact C.BadCell.is
  · exact C.Held.is
  · exact C.NotBulk.is
  · exact C.TooMany.is
  · exact C.BadWay.is
  · exact C.Mismatch.is
  · exact C.BadDocument.is
  · exact C.BadHook.is
  · exact C.BadBook.is
  · exact C.Crooked.is
  · exact C.BadLine.is
  · exact C.NoDocument.is
  · exact C.TooLong.is
  · exact C.Refused.is
  · exact C.Failed.is
  · exact C.NotKept.is
structure Kit (K : PySem.W.Frag) : Prop where
  owed : ∀ nm ∈ cns, PySem.W.kitOne K (.ref (He.ga K nm)) (.ref (He.ga K "OwedError")) = some true
  val : ∀ nm ∈ cns, PySem.W.kitOne K (.ref (He.ga K nm)) (.type "ValueError") = some true
  own : ∀ nm ∈ cns, ∀ x ∈ cns, PySem.W.kitOne K (.ref (He.ga K nm)) (.ref (He.ga K x)) = some (decide (nm = x))
theorem kit_of (h : kitB K = true) : Kit K := by
  have all : ∀ nm ∈ cns, ∃ p ∈ cs, p.1 = nm := fun nm hn => by
    obtain ⟨p, h1, h2⟩ := List.mem_map.mp hn
    exact ⟨p, h1, h2⟩
  have q := List.all_eq_true.mp h
  refine ⟨fun nm hn => ?_, fun nm hn => ?_, fun nm hn x hx => ?_⟩
  · obtain ⟨p, h1, rfl⟩ := all nm hn
    exact of_decide_eq_true (He.ba (q p h1)).1
  · obtain ⟨p, h1, rfl⟩ := all nm hn
    exact of_decide_eq_true (He.ba (He.ba (q p h1)).2).1
  · obtain ⟨p, h1, rfl⟩ := all nm hn
    obtain ⟨p2, h2, rfl⟩ := all x hx
    exact of_decide_eq_true (List.all_eq_true.mp (He.ba (He.ba (q p h1)).2).2 p2 h2)
def spKinds (K : PySem.W.Frag) : Sp := fun vs H Q _ => ∃ (e : Addr) (nm : Str) (l : List (Str × V)), vs = [.ref e] ∧ ExcAt H e (He.ga K nm) l ∧ nm ∈ cns ∧ ∀ H' q, Same H H' → H' q = some (.lst [.str nm]) → Q (.ref q) H'
theorem cns_one : ∀ nm ∈ cns, cns.filter (fun x => decide (nm = x)) = [nm] := by decide +kernel
theorem sc_law_kinds : FnScope [("_law_e" : Str), ("_law_pairs" : Str), ("_law_name" : Str), ("_law_holds" : Str)] [("_law_e" : Str)] (defScope s_law_kinds) := ⟨rfl, rfl, rfl, by decide +kernel, rfl, by decide +kernel, by decide +kernel⟩
theorem ok_kinds (D : TopD K mg "_law_kinds" s_law_kinds) (T : Blt mg) (C : Cls P K mg) (Kt : Kit K) : FnAt P w K mg base "_law_kinds" [("_law_e" : Str)] 1 (spKinds K) := by
  refine fn_at D sc_law_kinds (fun _ _ _ _ _ _ us hl => match us, hl with | [_], _ => rfl) (fun vs H Q E h => ?_) (fun f cdv A outer s H vs Q E hr h => ?_)
  · obtain ⟨e, nm, l, rfl, _⟩ := h
    rfl
  · obtain ⟨e, nm, l, rfl, he, hn, k⟩ := h
    refine ⟨_, (pss_cons (ps_set (i := 1) sc_law_kinds.nd rfl (Or.inl rfl) (pe_lst (pa_cons (pe_tup (pa_cons pe_str (pa_cons (pe_callB call_eis (by rfl) T.isinstance (by decide +kernel) (pa_cons (pv 0) (pa_cons (pe_glob (v := .ref (He.ga K "BadSchema")) (by rfl) C.mg_BadSchema rfl) pa_nil))) pa_nil))) (pa_cons (pe_tup (pa_cons pe_str (pa_cons (pe_callB call_eis (by rfl) T.isinstance (by decide +kernel) (pa_cons (pv 0) (pa_cons (pe_glob (v := .ref (He.ga K "BadStore")) (by rfl) C.mg_BadStore rfl) pa_nil))) pa_nil))) (pa_cons (pe_tup (pa_cons pe_str (pa_cons (pe_callB call_eis (by rfl) T.isinstance (by decide +kernel) (pa_cons (pv 0) (pa_cons (pe_glob (v := .ref (He.ga K "BadDeed")) (by rfl) C.mg_BadDeed rfl) pa_nil))) pa_nil))) (pa_cons (pe_tup (pa_cons pe_str (pa_cons (pe_callB call_eis (by rfl) T.isinstance (by decide +kernel) (pa_cons (pv 0) (pa_cons (pe_glob (v := .ref (He.ga K "NoTable")) (by rfl) C.mg_NoTable rfl) pa_nil))) pa_nil))) (pa_cons (pe_tup (pa_cons pe_str (pa_cons (pe_callB call_eis (by rfl) T.isinstance (by decide +kernel) (pa_cons (pv 0) (pa_cons (pe_glob (v := .ref (He.ga K "NoColumn")) (by rfl) C.mg_NoColumn rfl) pa_nil))) pa_nil))) (pa_cons (pe_tup (pa_cons pe_str (pa_cons (pe_callB call_eis (by rfl) T.isinstance (by decide +kernel) (pa_cons (pv 0) (pa_cons (pe_glob (v := .ref (He.ga K "NoRow")) (by rfl) C.mg_NoRow rfl) pa_nil))) pa_nil))) (pa_cons (pe_tup (pa_cons pe_str (pa_cons (pe_callB call_eis (by rfl) T.isinstance (by decide +kernel) (pa_cons (pv 0) (pa_cons (pe_glob (v := .ref (He.ga K "Taken")) (by rfl) C.mg_Taken rfl) pa_nil))) pa_nil))) (pa_cons (pe_tup (pa_cons pe_str (pa_cons (pe_callB call_eis (by rfl) T.isinstance (by decide +kernel) (pa_cons (pv 0) (pa_cons (pe_glob (v := .ref (He.ga K "BadCell")) (by rfl) C.mg_BadCell rfl) pa_nil))) pa_nil))) (pa_cons (pe_tup (pa_cons pe_str (pa_cons (pe_callB call_eis (by rfl) T.isinstance (by decide +kernel) (pa_cons (pv 0) (pa_cons (pe_glob (v := .ref (He.ga K "Held")) (by rfl) C.mg_Held rfl) pa_nil))) pa_nil))) (pa_cons (pe_tup (pa_cons pe_str (pa_cons (pe_callB call_eis (by rfl) T.isinstance (by decide +kernel) (pa_cons (pv 0) (pa_cons (pe_glob (v := .ref (He.ga K "NotBulk")) (by rfl) C.mg_NotBulk rfl) pa_nil))) pa_nil))) (pa_cons (pe_tup (pa_cons pe_str (pa_cons (pe_callB call_eis (by rfl) T.isinstance (by decide +kernel) (pa_cons (pv 0) (pa_cons (pe_glob (v := .ref (He.ga K "TooMany")) (by rfl) C.mg_TooMany rfl) pa_nil))) pa_nil))) (pa_cons (pe_tup (pa_cons pe_str (pa_cons (pe_callB call_eis (by rfl) T.isinstance (by decide +kernel) (pa_cons (pv 0) (pa_cons (pe_glob (v := .ref (He.ga K "BadWay")) (by rfl) C.mg_BadWay rfl) pa_nil))) pa_nil))) (pa_cons (pe_tup (pa_cons pe_str (pa_cons (pe_callB call_eis (by rfl) T.isinstance (by decide +kernel) (pa_cons (pv 0) (pa_cons (pe_glob (v := .ref (He.ga K "Mismatch")) (by rfl) C.mg_Mismatch rfl) pa_nil))) pa_nil))) (pa_cons (pe_tup (pa_cons pe_str (pa_cons (pe_callB call_eis (by rfl) T.isinstance (by decide +kernel) (pa_cons (pv 0) (pa_cons (pe_glob (v := .ref (He.ga K "BadDocument")) (by rfl) C.mg_BadDocument rfl) pa_nil))) pa_nil))) (pa_cons (pe_tup (pa_cons pe_str (pa_cons (pe_callB call_eis (by rfl) T.isinstance (by decide +kernel) (pa_cons (pv 0) (pa_cons (pe_glob (v := .ref (He.ga K "BadHook")) (by rfl) C.mg_BadHook rfl) pa_nil))) pa_nil))) (pa_cons (pe_tup (pa_cons pe_str (pa_cons (pe_callB call_eis (by rfl) T.isinstance (by decide +kernel) (pa_cons (pv 0) (pa_cons (pe_glob (v := .ref (He.ga K "BadBook")) (by rfl) C.mg_BadBook rfl) pa_nil))) pa_nil))) (pa_cons (pe_tup (pa_cons pe_str (pa_cons (pe_callB call_eis (by rfl) T.isinstance (by decide +kernel) (pa_cons (pv 0) (pa_cons (pe_glob (v := .ref (He.ga K "Crooked")) (by rfl) C.mg_Crooked rfl) pa_nil))) pa_nil))) (pa_cons (pe_tup (pa_cons pe_str (pa_cons (pe_callB call_eis (by rfl) T.isinstance (by decide +kernel) (pa_cons (pv 0) (pa_cons (pe_glob (v := .ref (He.ga K "BadLine")) (by rfl) C.mg_BadLine rfl) pa_nil))) pa_nil))) (pa_cons (pe_tup (pa_cons pe_str (pa_cons (pe_callB call_eis (by rfl) T.isinstance (by decide +kernel) (pa_cons (pv 0) (pa_cons (pe_glob (v := .ref (He.ga K "NoDocument")) (by rfl) C.mg_NoDocument rfl) pa_nil))) pa_nil))) (pa_cons (pe_tup (pa_cons pe_str (pa_cons (pe_callB call_eis (by rfl) T.isinstance (by decide +kernel) (pa_cons (pv 0) (pa_cons (pe_glob (v := .ref (He.ga K "TooLong")) (by rfl) C.mg_TooLong rfl) pa_nil))) pa_nil))) (pa_cons (pe_tup (pa_cons pe_str (pa_cons (pe_callB call_eis (by rfl) T.isinstance (by decide +kernel) (pa_cons (pv 0) (pa_cons (pe_glob (v := .ref (He.ga K "Refused")) (by rfl) C.mg_Refused rfl) pa_nil))) pa_nil))) (pa_cons (pe_tup (pa_cons pe_str (pa_cons (pe_callB call_eis (by rfl) T.isinstance (by decide +kernel) (pa_cons (pv 0) (pa_cons (pe_glob (v := .ref (He.ga K "Failed")) (by rfl) C.mg_Failed rfl) pa_nil))) pa_nil))) (pa_cons (pe_tup (pa_cons pe_str (pa_cons (pe_callB call_eis (by rfl) T.isinstance (by decide +kernel) (pa_cons (pv 0) (pa_cons (pe_glob (v := .ref (He.ga K "NotKept")) (by rfl) C.mg_NotKept rfl) pa_nil))) pa_nil))) pa_nil)))))))))))))))))))))))))
      (pss_one (ps_ret (pe_lc (own := [(("_law_name" : Str), 2), (("_law_holds" : Str), 3)]) (by rfl) sc_law_kinds.nd (pi_list (pv 1)) (blkOk_by (own := [(("_law_name" : Str), 2), (("_law_holds" : Str), 3)]) (N := [("_law_e" : Str), ("_law_pairs" : Str), ("_law_name" : Str), ("_law_holds" : Str)]) (sc := defScope s_law_kinds) (by decide +kernel)) (fun _ _ _ _ _ => pg_tupK (K := K) (n := 2) rfl (pgs_cons (pg_name (i := 2) sc_law_kinds.nd rfl (Or.inl rfl)) (pgs_cons (pg_name (i := 3) sc_law_kinds.nd rfl (Or.inl rfl)) pgs_nil))) (fun _ _ _ _ _ => pts_one (pt_val (pv 3))) (fun _ _ _ _ _ => (pv 2)))))), ?_⟩
    refine as_ (lst_ ?_)
    refine pairs_read (K := K) (e := e) (l := l) rfl (cns_is C nm hn) cns H _ he (Kt.own nm hn) fun vs H1 s1 ps => ?_
    have hl : vs.length = 23 := ps.length
    refine ⟨by rw [hl]; decide, fun L nL => ?_⟩
    have s2 := same_new (o := .lst vs) nL
    refine ret_ (lc_over rfl ⟨_, SqL.of upd_same⟩ fun D' nD => ?_)
    refine lc_list (K := K) (a := L) (xs := vs) (fun i H' => H' D' = some (.lst (((cns.take i).filter (fun x => decide (nm = x))).map V.str)) ∧ Same (upd H1 L (.lst vs)) H') ⟨upd_same, same_new nD⟩ (fun i H' _ ⟨_, z⟩ => SqL.of (z _ _ upd_same)) ?_ ?_
    · rintro i x H' hi ⟨h1, z⟩
      obtain ⟨nm', hx, t, rfl, ht⟩ := ps.get hi
      refine ⟨t, _, rfl, SqT.of (z _ _ (s2 _ _ ht)), rfl, _, _, rfl, _, _, rfl, rfl, rfl, ?_⟩
      have et : cns.take (i + 1) = cns.take i ++ [nm'] := by
        rw [List.take_add_one, hx]
        rfl
      refine ⟨_, rfl, _, rfl, ite2 (fun h => ?_) (fun h => ?_)⟩
      · refine ⟨_, rfl, _, h1, ?_, ?_, fun b o q => ?_⟩
        · rw [List.length_map]
          refine Nat.lt_of_le_of_lt (List.length_filter_le _ _) (Nat.lt_of_le_of_lt (List.length_take_le _ _) ?_)
          have hi2 : i < vs.length := (List.getElem?_eq_some_iff.mp hi).1
          rw [sizeLine_eq]
          omega
        · rw [upd_same, et, List.filter_append, List.map_append]
          have e3 : [nm'].filter (fun x => decide (nm = x)) = [nm'] := by
            rw [List.filter_cons, if_pos h]
            rfl
          rw [e3]
          rfl
        · rw [upd_ne (ne_of_none q nD)]
          exact z _ _ q
      · refine ⟨?_, z⟩
        rw [h1, et, List.filter_append]
        have e3 : [nm'].filter (fun x => decide (nm = x)) = [] := by
          rw [List.filter_cons, if_neg h]
          rfl
        rw [e3, List.append_nil]
    · rintro H' ⟨h1, z⟩
      refine k _ _ (s1.trans (s2.trans z)) ?_
      rw [h1, hl]
      have e2 : cns.take 23 = cns := by decide +kernel
      rw [e2, cns_one nm hn]
      rfl
end
end Ow

/-! k01.8: the law -/
namespace Ow
open PySem PySem.Spec L2
section
variable {P : Program} {w : World} {K : PySem.W.Frag} {mg : Str → Option Value} {base : Heap}
theorem loop_bound {n : Int} (h : 0 ≤ n) : 1 ≤ (if (if n < 8 then n else 8) > 1 then (if n < 8 then n else 8) else 1) ∧ (if (if n < 8 then n else 8) > 1 then (if n < 8 then n else 8) else 1) ≤ 8 := by
  by_cases h1 : n < 8
  · rw [if_pos h1]
    by_cases h2 : n > 1
    · rw [if_pos h2]
      omega
    · rw [if_neg h2]
      omega
  · rw [if_neg h1]
    decide
theorem cns_ok : ∀ nm ∈ cns, PyData.strOk nm = true := by decide +kernel
theorem sh1 {nm : Str} (h : nm ∈ cns) : SeqAt.shaped (.list [.str nm]) = true := by
  unfold SeqAt.shaped
  simp [PyData.canLay0, PyData.canLayAll0, PyData.depth, PyData.depthAll, cns_ok nm h]
def spLaw (K : PySem.W.Frag) : Sp := fun vs H Q _ => ∃ (a : Addr) (ns : List Int), vs = [.ref a] ∧ SqL K H a (ns.map V.int) ∧ ns.length ≤ 63 ∧ ∀ H', Q (.bl true) H'
theorem sc_law : FnScope [("_law_script" : Str), ("_law_place" : Str), ("_law_pool_here" : Str), ("_law_a" : Str), ("_law_b" : Str), ("_law_c" : Str), ("_law_made" : Str), ("_law_name" : Str), ("_law_e" : Str), ("_law_told" : Str), ("_law_due" : Str)] [("_law_script" : Str)] (defScope s_law) := ⟨rfl, rfl, rfl, by decide +kernel, rfl, by decide +kernel, by decide +kernel⟩
theorem ok_law {f : Addr} {fd : FuncData} (F : FnP K "law" s_law f fd) (T : Blt mg) (C : Cls P K mg) (Kt : Kit K) (F_pool : FnAt P w K mg base "_law_pool" [("_law_script" : Str), ("_law_place" : Str)] 1 (spPool K)) (F_value : FnAt P w K mg base "_law_value" [("_law_pool_here" : Str)] 4 spValue) (F_kinds : FnAt P w K mg base "_law_kinds" [("_law_e" : Str)] 1 (spKinds K))
    (F_ats : FnAt P w K mg base "_law_ats" [("_law_a" : Str)] 3 (spAts K)) (F_ones : FnAt P w K mg base "_law_ones" [("_law_a" : Str)] 3 (spAts K)) (F_twos : FnAt P w K mg base "_law_twos" [("_law_a" : Str), ("_law_b" : Str)] 3 (spTwos K)) (F_threes : FnAt P w K mg base "_law_threes" [("_law_a" : Str), ("_law_b" : Str), ("_law_c" : Str)] 3 (spThrees K)) :
    FnG P w K mg base 5 f fd [("_law_script" : Str)] (spLaw K) := by
  refine fnG_of F sc_law (fun vs H Q E h => ?_) (fun cdv A outer s H vs Q hg hr h => ?_)
  · obtain ⟨a, ns, rfl, _⟩ := h
    rfl
  · obtain ⟨a, ns, rfl, hS, hl, k⟩ := h
    have hru : (A.deeper (PyProof.Rows.envOfC "law" (defScope s_law) s.heap.objs.size f cdv)).units + 65 < cLine := by
      have := hr.un
      omega
    refine ⟨_, (pss_cons (ps_for PassesOwn.never rfl (pi_range1 rfl T.range (pa_cons (pe_callB (call_max2 rfl) (by rfl) T.max (by decide +kernel) (pa_cons pe_int (pa_cons (pe_callB (call_min2 rfl) (by rfl) T.min (by decide +kernel) (pa_cons pe_int (pa_cons (pe_callB call_len_seq (by rfl) T.len PySem.boot_len (pa_cons (pv 0) pa_nil)) pa_nil))) pa_nil))) pa_nil)) (pg_name (i := 1) sc_law.nd rfl (Or.inl rfl))
      (pss_cons (ps_set (i := 2) sc_law.nd rfl (Or.inl rfl) (pe_fn F_pool (hr.mono (by decide)) (by rfl) (pa_cons (pv 0) (pa_cons (pv 1) pa_nil))))
      (pss_cons (ps_par3 (i := 3) (j := 4) (l := 5) (by rfl) sc_law.nd rfl rfl rfl (by decide) (by decide) (by decide) rfl rfl rfl (pa_cons (pe_fn F_value (hr.mono (by decide)) (by rfl) (pa_cons (pv 2) pa_nil)) (pa_cons (pe_fn F_value (hr.mono (by decide)) (by rfl) (pa_cons (pv 2) pa_nil)) (pa_cons (pe_fn F_value (hr.mono (by decide)) (by rfl) (pa_cons (pv 2) pa_nil)) pa_nil))) (by rfl))
      (pss_cons (ps_set (i := 6) sc_law.nd rfl (Or.inl rfl) (pe_op op_cat (pe_op op_cat (pe_op op_cat (pe_op op_cat (pe_fn F_ats (hr.mono (by decide)) (by rfl) (pa_cons (pv 3) pa_nil)) (pe_fn F_ones (hr.mono (by decide)) (by rfl) (pa_cons (pv 4) pa_nil))) (pe_fn F_twos (hr.mono (by decide)) (by rfl) (pa_cons (pv 3) (pa_cons (pv 4) pa_nil)))) (pe_fn F_twos (hr.mono (by decide)) (by rfl) (pa_cons (pv 5) (pa_cons (pv 3) pa_nil)))) (pe_fn F_threes (hr.mono (by decide)) (by rfl) (pa_cons (pv 3) (pa_cons (pv 4) (pa_cons (pv 5) pa_nil))))))
      (pss_one (ps_for PassesOwn.never rfl (pi_list (pv 6)) (pg_tup rfl (pgs_cons (pg_name (i := 7) sc_law.nd rfl (Or.inl rfl)) (pgs_cons (pg_name (i := 8) sc_law.nd rfl (Or.inl rfl)) (pgs_cons (pg_name (i := 9) sc_law.nd rfl (Or.inl rfl)) (pgs_cons (pg_name (i := 10) sc_law.nd rfl (Or.inl rfl)) pgs_nil)))))
      (pss_cons (ps_if (PW.pt (pw_or (pt_cmpR (op_neD hr.units) (pe_fn F_kinds (hr.mono (by decide)) (by rfl) (pa_cons (pv 8) pa_nil)) (pe_lst (pa_cons (pv 7) pa_nil)) (nomark _)) (pw_or (pt_not (pt_val (pe_callB call_eis (by rfl) T.isinstance (by decide +kernel) (pa_cons (pv 8) (pa_cons (pe_glob (v := .ref (He.ga K "OwedError")) (by rfl) C.mg_OwedError rfl) pa_nil))))) (pw_or1 (pt_not (pt_val (pe_callB call_eis (by rfl) T.isinstance (by decide +kernel) (pa_cons (pv 8) (pa_cons (pe_bltn (v := .ty "ValueError") (by rfl) C.ve (by decide +kernel) rfl) pa_nil)))))))))
      (pss_one (ps_ret pe_bl))
      pss_nil)
      (pss_one (ps_if (pt_cmpR op_ne (pe_callB (call_rep hg hru) (by rfl) T.repr (by decide +kernel) (pa_cons (pv 9) pa_nil)) (pe_callB (call_rep hg hru) (by rfl) T.repr (by decide +kernel) (pa_cons (pv 10) pa_nil)) (nomark _))
      (pss_one (ps_ret pe_bl))
      pss_nil)))))))))
      (pss_one (ps_ret pe_bl))), ?_⟩
    have hj := loop_bound (n := ((ns.map V.int).length : Int)) (Int.natCast_nonneg _)
    refine ⟨_, rfl, a, _, rfl, .inl hS, 8, _, rfl, 1, _, rfl, _, rfl, by omega, by omega, ?_⟩
    refine for_range (lo := 0) (fun i σ H' => ∃ x1 x2 x3 x4 x5 x6 x7 x8 x9 x10 : Option V, σ = [some (.ref a), x1, x2, x3, x4, x5, x6, x7, x8, x9, x10] ∧ Same H H') ⟨_, _, _, _, _, _, _, _, _, _, rfl, Same.refl _⟩ ?_ ?_
    · rintro i σ H1 hi ⟨x1, x2, x3, x4, x5, x6, x7, x8, x9, x10, rfl, s1⟩
      refine as_ ⟨_, rfl, _, rfl, a, ns, i, (by show [V.ref a, V.int (0 + (i : Int))] = _; rw [Int.zero_add]), s1.seq hS, by omega, fun H2 p np s2 pl => ?_⟩
      refine ⟨_, rfl, p, _, rfl, pl, by decide, fun H3 va k3 p3 v3 => ?_⟩
      refine ⟨_, rfl, p, _, rfl, p3, by decide, fun H4 vb k4 p4 v4 => ?_⟩
      refine ⟨_, rfl, p, _, rfl, p4, by decide, fun H5 vc k5 p5 v5 => ?_⟩
      refine ⟨va, vb, vc, rfl, ?_⟩
      have wa : ValAt H5 va := (v3.keep p3 k4).keep p4 k5
      have wb : ValAt H5 vb := v4.keep p4 k5
      have z5 : Same H H5 := fun b o e => by
        have nb : b ≠ p := ne_of_none (s1 _ _ e) np
        exact k5 _ _ nb (k4 _ _ nb (k3 _ _ nb (s2 _ _ (s1 _ _ e))))
      refine ⟨_, rfl, va, rfl, wa, fun D1 h1 t1 r1 => ?_⟩
      refine ⟨_, rfl, vb, rfl, wb.same t1, fun D2 h2 t2 r2 => rows_cat (n := 40) (m := 40) (r1.same t2) r2 (by decide) (fun D3 h3 t3 r3 => ?_)⟩
      have y3 := t1.trans (t2.trans t3)
      refine ⟨_, rfl, _, rfl, va, vb, rfl, wa.same y3, wb.same y3, fun D4 h4 t4 r4 => rows_cat (n := 80) (m := 40) (r3.same t4) r4 (by decide) (fun D5 h5 t5 r5 => ?_)⟩
      have y5 := y3.trans (t4.trans t5)
      refine ⟨_, rfl, _, rfl, vc, va, rfl, v5.same y5, wa.same y5, fun D6 h6 t6 r6 => rows_cat (n := 120) (m := 40) (r5.same t6) r6 (by decide) (fun D7 h7 t7 r7 => ?_)⟩
      have y7 := y5.trans (t6.trans t7)
      refine ⟨_, rfl, _, rfl, _, rfl, va, vb, vc, rfl, wa.same y7, wb.same y7, v5.same y7, fun D8 h8 t8 r8 => rows_cat (n := 160) (m := 40) (r7.same t8) r8 (by decide) (fun D9 h9 t9 r9 => ?_)⟩
      have y9 := z5.trans (y7.trans (t8.trans t9))
      obtain ⟨rows, q1, q2, q3⟩ := r9
      refine ⟨_, rfl, D9, rfl, ⟨_, SqL.of q1⟩, ?_⟩
      refine for_list (K := K) (a := D9) (xs := rows) (fun _ σ H' => ∃ x1 x2 x3 x4 x5 x6 x7 x8 x9 x10 : Option V, σ = [some (.ref a), x1, x2, x3, x4, x5, x6, x7, x8, x9, x10] ∧ Same h9 H') ⟨_, _, _, _, _, _, _, _, _, _, rfl, Same.refl _⟩ (fun _ _ _ _ ⟨_, _, _, _, _, _, _, _, _, _, s⟩ => SqL.of (s.2 _ _ q1)) ?_ ?_
      · rintro i2 x σ H' hx ⟨o1, o2, o3, o4, o5, o6, o7, o8, o9, o10, rfl, g1⟩
        obtain ⟨t, e, told, due, nm, l, us, rfl, ht, hn, he, htd, hdu, hul, hv⟩ := (q3 x (List.mem_of_getElem? hx)).same g1
        refine ⟨t, _, rfl, SqT.of ht, rfl, _, _, rfl, _, _, rfl, _, _, rfl, _, _, rfl, rfl, ?_⟩
        refine ⟨_, rfl, e, nm, l, rfl, he, hn, fun H2' q g2 hq => ?_⟩
        refine ⟨_, rfl, by show 1 ≤ sizeLine; decide, fun L nL => ?_⟩
        have g3 := same_new (o := .lst [V.str nm]) nL
        have gg := g2.trans g3
        refine ⟨.list [.str nm], .list [.str nm], .lst (SqL.of (g3 _ _ hq)) (.cons (.str nm) .nil), .lst (SqL.of upd_same) (.cons (.str nm) .nil), sh1 hn, sh1 hn, false, ?_, iteF ?_⟩
        · rw [SeqAt.eqv_refl _ (SeqAt.canLay_of_shaped (sh1 hn))]
          rfl
        refine ⟨_, rfl, e, _, l, _, _, true, rfl, he.same gg, cns_is C nm hn, fun u hu => hu, Kt.owed nm hn, true, rfl, iteF ?_⟩
        refine ⟨_, rfl, e, _, l, _, _, true, rfl, he.same gg, cns_is C nm hn, fun u hu => hu, Kt.val nm hn, true, rfl, iteF ?_⟩
        obtain ⟨ds, dd, sw⟩ := tup_data (K := K) (us := us) (fun u hu => (hv u hu).same gg) hul
        refine ⟨_, rfl, told, .tuple ds, rfl, .tup (SqT.of (gg _ _ htd)) dd, sw.sh, sw.nd, Nat.le_trans sw.dp (by decide), Nat.le_trans sw.ln (by decide), ?_⟩
        refine ⟨_, rfl, due, .tuple ds, rfl, .tup (SqT.of (gg _ _ hdu)) dd, sw.sh, sw.nd, Nat.le_trans sw.dp (by decide), Nat.le_trans sw.ln (by decide), ?_⟩
        refine ⟨rfl, _, rfl, iteNS rfl ?_⟩
        exact ⟨_, _, _, _, _, _, _, _, _, _, rfl, g1.trans gg⟩
      · rintro σ H' ⟨o1, o2, o3, o4, o5, o6, o7, o8, o9, o10, rfl, g1⟩
        exact ⟨_, _, _, _, _, _, _, _, _, _, rfl, y9.trans g1⟩
    · rintro σ H' ⟨x1, x2, x3, x4, x5, x6, x7, x8, x9, x10, rfl, s1⟩
      exact k _
end
end Ow

/-! k01.9: the head and the end -/
namespace Ow
open PySem PySem.Spec L2 NdefX
section
variable {K : PySem.W.Frag} {h : Heap} {mg : Str → Option Value}
theorem tops (X : K.In h) (G : h.Ns mainGlobals mg) (c : SaysO (fa ++ fa2) fn mt exK K) : TopD K mg "_law_pool" s_law_pool ∧ TopD K mg "_law_draw" s_law_draw ∧ TopD K mg "_law_of" s_law_of ∧ TopD K mg "_law_plain" s_law_plain ∧ TopD K mg "_law_value" s_law_value ∧ TopD K mg "_law_kinds" s_law_kinds ∧ TopD K mg "_law_ats" s_law_ats ∧ TopD K mg "_law_ones" s_law_ones ∧ TopD K mg "_law_twos" s_law_twos ∧ TopD K mg "_law_threes" s_law_threes := by
  refine ⟨?_, ?_, ?_, ?_, ?_, ?_, ?_, ?_, ?_, ?_⟩
  · obtain ⟨fd, F⟩ := c.d.def_ 0 (d := d_law_pool) rfl
    exact ⟨_, fd, F, He.glo_ok X G (c.d.fact 11 (f := .glo "_law_pool") rfl)⟩
  · obtain ⟨fd, F⟩ := c.d.def_ 1 (d := d_law_draw) rfl
    exact ⟨_, fd, F, He.glo_ok X G (c.d.fact 12 (f := .glo "_law_draw") rfl)⟩
  · obtain ⟨fd, F⟩ := c.d.def_ 2 (d := d_law_of) rfl
    exact ⟨_, fd, F, He.glo_ok X G (c.d.fact 13 (f := .glo "_law_of") rfl)⟩
  · obtain ⟨fd, F⟩ := c.d.def_ 3 (d := d_law_plain) rfl
    exact ⟨_, fd, F, He.glo_ok X G (c.d.fact 14 (f := .glo "_law_plain") rfl)⟩
  · obtain ⟨fd, F⟩ := c.d.def_ 4 (d := d_law_value) rfl
    exact ⟨_, fd, F, He.glo_ok X G (c.d.fact 15 (f := .glo "_law_value") rfl)⟩
  · obtain ⟨fd, F⟩ := c.d.def_ 5 (d := d_law_kinds) rfl
    exact ⟨_, fd, F, He.glo_ok X G (c.d.fact 16 (f := .glo "_law_kinds") rfl)⟩
  · obtain ⟨fd, F⟩ := c.d.def_ 6 (d := d_law_ats) rfl
    exact ⟨_, fd, F, He.glo_ok X G (c.d.fact 17 (f := .glo "_law_ats") rfl)⟩
  · obtain ⟨fd, F⟩ := c.d.def_ 7 (d := d_law_ones) rfl
    exact ⟨_, fd, F, He.glo_ok X G (c.d.fact 18 (f := .glo "_law_ones") rfl)⟩
  · obtain ⟨fd, F⟩ := c.d.def_ 8 (d := d_law_twos) rfl
    exact ⟨_, fd, F, He.glo_ok X G (c.d.fact 19 (f := .glo "_law_twos") rfl)⟩
  · obtain ⟨fd, F⟩ := c.d.def_ 9 (d := d_law_threes) rfl
    exact ⟨_, fd, F, He.glo_ok X G (c.d.fact 20 (f := .glo "_law_threes") rfl)⟩
theorem blt (X : K.In h) (G : h.Ns mainGlobals mg) (c : SaysO (fa ++ fa2) fn mt exK K) : Blt mg :=
  ⟨He.free_ok X G (c.d.fact 0 (f := .free "len") rfl), He.free_ok X G (c.d.fact 1 (f := .free "abs") rfl), He.free_ok X G (c.d.fact 2 (f := .free "int") rfl), He.free_ok X G (c.d.fact 3 (f := .free "range") rfl), He.free_ok X G (c.d.fact 4 (f := .free "max") rfl), He.free_ok X G (c.d.fact 5 (f := .free "min") rfl), He.free_ok X G (c.d.fact 6 (f := .free "isinstance") rfl), He.free_ok X G (c.d.fact 7 (f := .free "tuple") rfl), He.free_ok X G (c.d.fact 8 (f := .free "repr") rfl)⟩
theorem cls (X : K.In h) (G : h.Ns mainGlobals mg) (c : SaysO (fa ++ fa2) fn mt exK K) : Cls Pr K mg := by
  obtain ⟨b0, b1⟩ := He.ba c.x
  have b := List.all_eq_true.mp (He.ba b1).1
  have e0 : ClsAt Pr K mg "BadSchema" "BadSchema.__init__" i_BadSchema [("at" : Str)] := excB_ok X G b0 (b (("BadSchema" : Str), [("at" : Str)]) (by decide +kernel)) (by decide) (c.mth (d := m_BadSchema) (List.mem_of_getElem? (i := 0) rfl)) ib_BadSchema
  have e1 : ClsAt Pr K mg "BadStore" "BadStore.__init__" i_BadStore [("at" : Str)] := excB_ok X G b0 (b (("BadStore" : Str), [("at" : Str)]) (by decide +kernel)) (by decide) (c.mth (d := m_BadStore) (List.mem_of_getElem? (i := 1) rfl)) ib_BadStore
  have e2 : ClsAt Pr K mg "BadDeed" "BadDeed.__init__" i_BadDeed [("deed" : Str)] := excB_ok X G b0 (b (("BadDeed" : Str), [("deed" : Str)]) (by decide +kernel)) (by decide) (c.mth (d := m_BadDeed) (List.mem_of_getElem? (i := 2) rfl)) ib_BadDeed
  have e3 : ClsAt Pr K mg "NoTable" "NoTable.__init__" i_NoTable [("table" : Str)] := excB_ok X G b0 (b (("NoTable" : Str), [("table" : Str)]) (by decide +kernel)) (by decide) (c.mth (d := m_NoTable) (List.mem_of_getElem? (i := 3) rfl)) ib_NoTable
  have e4 : ClsAt Pr K mg "NoColumn" "NoColumn.__init__" i_NoColumn [("table" : Str), ("column" : Str)] := excB_ok X G b0 (b (("NoColumn" : Str), [("table" : Str), ("column" : Str)]) (by decide +kernel)) (by decide) (c.mth (d := m_NoColumn) (List.mem_of_getElem? (i := 4) rfl)) ib_NoColumn
  have e5 : ClsAt Pr K mg "NoRow" "NoRow.__init__" i_NoRow [("table" : Str), ("key" : Str)] := excB_ok X G b0 (b (("NoRow" : Str), [("table" : Str), ("key" : Str)]) (by decide +kernel)) (by decide) (c.mth (d := m_NoRow) (List.mem_of_getElem? (i := 5) rfl)) ib_NoRow
  have e6 : ClsAt Pr K mg "Taken" "Taken.__init__" i_Taken [("table" : Str), ("key" : Str)] := excB_ok X G b0 (b (("Taken" : Str), [("table" : Str), ("key" : Str)]) (by decide +kernel)) (by decide) (c.mth (d := m_Taken) (List.mem_of_getElem? (i := 6) rfl)) ib_Taken
  have e7 : ClsAt Pr K mg "BadCell" "BadCell.__init__" i_BadCell [("table" : Str), ("column" : Str), ("cell" : Str)] := excB_ok X G b0 (b (("BadCell" : Str), [("table" : Str), ("column" : Str), ("cell" : Str)]) (by decide +kernel)) (by decide) (c.mth (d := m_BadCell) (List.mem_of_getElem? (i := 7) rfl)) ib_BadCell
  have e8 : ClsAt Pr K mg "Held" "Held.__init__" i_Held [("table" : Str), ("key" : Str)] := excB_ok X G b0 (b (("Held" : Str), [("table" : Str), ("key" : Str)]) (by decide +kernel)) (by decide) (c.mth (d := m_Held) (List.mem_of_getElem? (i := 8) rfl)) ib_Held
  have e9 : ClsAt Pr K mg "NotBulk" "NotBulk.__init__" i_NotBulk [("table" : Str), ("column" : Str)] := excB_ok X G b0 (b (("NotBulk" : Str), [("table" : Str), ("column" : Str)]) (by decide +kernel)) (by decide) (c.mth (d := m_NotBulk) (List.mem_of_getElem? (i := 9) rfl)) ib_NotBulk
  have e10 : ClsAt Pr K mg "TooMany" "TooMany.__init__" i_TooMany [("what" : Str)] := excB_ok X G b0 (b (("TooMany" : Str), [("what" : Str)]) (by decide +kernel)) (by decide) (c.mth (d := m_TooMany) (List.mem_of_getElem? (i := 10) rfl)) ib_TooMany
  have e11 : ClsAt Pr K mg "BadWay" "BadWay.__init__" i_BadWay [("at" : Str)] := excB_ok X G b0 (b (("BadWay" : Str), [("at" : Str)]) (by decide +kernel)) (by decide) (c.mth (d := m_BadWay) (List.mem_of_getElem? (i := 11) rfl)) ib_BadWay
  have e12 : ClsAt Pr K mg "Mismatch" "Mismatch.__init__" i_Mismatch [("first" : Str), ("second" : Str)] := excB_ok X G b0 (b (("Mismatch" : Str), [("first" : Str), ("second" : Str)]) (by decide +kernel)) (by decide) (c.mth (d := m_Mismatch) (List.mem_of_getElem? (i := 12) rfl)) ib_Mismatch
  have e13 : ClsAt Pr K mg "BadDocument" "BadDocument.__init__" i_BadDocument [("at" : Str)] := excB_ok X G b0 (b (("BadDocument" : Str), [("at" : Str)]) (by decide +kernel)) (by decide) (c.mth (d := m_BadDocument) (List.mem_of_getElem? (i := 13) rfl)) ib_BadDocument
  have e14 : ClsAt Pr K mg "BadHook" "BadHook.__init__" i_BadHook [("what" : Str)] := excB_ok X G b0 (b (("BadHook" : Str), [("what" : Str)]) (by decide +kernel)) (by decide) (c.mth (d := m_BadHook) (List.mem_of_getElem? (i := 14) rfl)) ib_BadHook
  have e15 : ClsAt Pr K mg "BadBook" "BadBook.__init__" i_BadBook [("what" : Str), ("at" : Str)] := excB_ok X G b0 (b (("BadBook" : Str), [("what" : Str), ("at" : Str)]) (by decide +kernel)) (by decide) (c.mth (d := m_BadBook) (List.mem_of_getElem? (i := 15) rfl)) ib_BadBook
  have e16 : ClsAt Pr K mg "Crooked" "Crooked.__init__" i_Crooked [("where" : Str)] := excB_ok X G b0 (b (("Crooked" : Str), [("where" : Str)]) (by decide +kernel)) (by decide) (c.mth (d := m_Crooked) (List.mem_of_getElem? (i := 16) rfl)) ib_Crooked
  have e17 : ClsAt Pr K mg "BadLine" "BadLine.__init__" i_BadLine [("at" : Str)] := excB_ok X G b0 (b (("BadLine" : Str), [("at" : Str)]) (by decide +kernel)) (by decide) (c.mth (d := m_BadLine) (List.mem_of_getElem? (i := 17) rfl)) ib_BadLine
  have e18 : ClsAt Pr K mg "NoDocument" "NoDocument.__init__" i_NoDocument [("name" : Str), ("key" : Str)] := excB_ok X G b0 (b (("NoDocument" : Str), [("name" : Str), ("key" : Str)]) (by decide +kernel)) (by decide) (c.mth (d := m_NoDocument) (List.mem_of_getElem? (i := 18) rfl)) ib_NoDocument
  have e19 : ClsAt Pr K mg "TooLong" "TooLong.__init__" i_TooLong [("name" : Str), ("key" : Str), ("most" : Str)] := excB_ok X G b0 (b (("TooLong" : Str), [("name" : Str), ("key" : Str), ("most" : Str)]) (by decide +kernel)) (by decide) (c.mth (d := m_TooLong) (List.mem_of_getElem? (i := 19) rfl)) ib_TooLong
  have e20 : ClsAt Pr K mg "Refused" "Refused.__init__" i_Refused [("at" : Str), ("why" : Str)] := excB_ok X G b0 (b (("Refused" : Str), [("at" : Str), ("why" : Str)]) (by decide +kernel)) (by decide) (c.mth (d := m_Refused) (List.mem_of_getElem? (i := 20) rfl)) ib_Refused
  have e21 : ClsAt Pr K mg "Failed" "Failed.__init__" i_Failed [("at" : Str), ("why" : Str)] := excB_ok X G b0 (b (("Failed" : Str), [("at" : Str), ("why" : Str)]) (by decide +kernel)) (by decide) (c.mth (d := m_Failed) (List.mem_of_getElem? (i := 21) rfl)) ib_Failed
  have e22 : ClsAt Pr K mg "NotKept" "NotKept.__init__" i_NotKept [] := excB_ok X G b0 (b (("NotKept" : Str), []) (by decide +kernel)) (by decide) (c.mth (d := m_NotKept) (List.mem_of_getElem? (i := 22) rfl)) ib_NotKept
  exact ⟨e0, (let ⟨_, _, _, T, _⟩ := e0; T.mgx), e1, (let ⟨_, _, _, T, _⟩ := e1; T.mgx), e2, (let ⟨_, _, _, T, _⟩ := e2; T.mgx), e3, (let ⟨_, _, _, T, _⟩ := e3; T.mgx), e4, (let ⟨_, _, _, T, _⟩ := e4; T.mgx), e5, (let ⟨_, _, _, T, _⟩ := e5; T.mgx), e6, (let ⟨_, _, _, T, _⟩ := e6; T.mgx), e7, (let ⟨_, _, _, T, _⟩ := e7; T.mgx), e8, (let ⟨_, _, _, T, _⟩ := e8; T.mgx), e9, (let ⟨_, _, _, T, _⟩ := e9; T.mgx), e10, (let ⟨_, _, _, T, _⟩ := e10; T.mgx), e11, (let ⟨_, _, _, T, _⟩ := e11; T.mgx), e12, (let ⟨_, _, _, T, _⟩ := e12; T.mgx), e13, (let ⟨_, _, _, T, _⟩ := e13; T.mgx), e14, (let ⟨_, _, _, T, _⟩ := e14; T.mgx), e15, (let ⟨_, _, _, T, _⟩ := e15; T.mgx), e16, (let ⟨_, _, _, T, _⟩ := e16; T.mgx), e17, (let ⟨_, _, _, T, _⟩ := e17; T.mgx), e18, (let ⟨_, _, _, T, _⟩ := e18; T.mgx), e19, (let ⟨_, _, _, T, _⟩ := e19; T.mgx), e20, (let ⟨_, _, _, T, _⟩ := e20; T.mgx), e21, (let ⟨_, _, _, T, _⟩ := e21; T.mgx), e22, (let ⟨_, _, _, T, _⟩ := e22; T.mgx), He.glo_ok X G (c.d.fact 22 (f := .glo "OwedError") rfl), He.free_ok X G (c.d.fact 9 (f := .free "ValueError") rfl)⟩
theorem facts {w : World} {f : Addr} (X : K.In h) (G : h.Ns mainGlobals mg) (hfa : mg ("law" : Str) = some (.ref f)) (c : SaysO (fa ++ fa2) fn mt exK K) :
    ∃ fd : FuncData, (∀ (s : Shared) (v : Value), BindsTo s fd ⟨[v], []⟩ [(("_law_script" : Str), v)]) ∧ ∀ base : Heap, K.In base → base.Ns mainGlobals mg → FnG Pr w K mg base 5 f fd [("_law_script" : Str)] (spLaw K) := by
  obtain ⟨fd, F⟩ := c.d.def_ 10 (d := d_law) rfl
  have e := hfa.symm.trans (He.glo_ok X G (c.d.fact 21 (f := .glo "law") rfl))
  cases e
  have b := FunD.bindsA (ps := [("_law_script" : Str)]) F fun _ _ _ _ _ _ us hl => match us, hl with | [_], _ => rfl
  obtain ⟨t_pool, t_draw, t_of, t_plain, t_value, t_kinds, t_ats, t_ones, t_twos, t_threes⟩ := tops X G c
  have T := blt X G c
  have C := cls X G c
  have Kt := kit_of (He.ba (He.ba c.x).2).2
  refine ⟨fd, fun s v => b s [v] rfl, fun base _ _ => ?_⟩
  have F1 := ok_draw (P := Pr) (w := w) (base := base) t_draw T
  have F2 := ok_of t_of T F1
  have F3 := ok_plain t_plain T F1 F2
  have F4 := ok_value t_value T F1 F3
  exact ok_law F T C Kt (ok_pool t_pool T) F4 (ok_kinds t_kinds T C Kt) (ok_ats t_ats T C) (ok_ones t_ones T C) (ok_twos t_twos T C) (ok_threes t_threes T C)
end
end Ow
open PySem PySem.W PySem.Calls PyProof.Rows
theorem PySem.Challenge.cw_owedrebuilds_k01_errors_made_holds : PySem.Challenge.rw_owedrebuilds_k01_errors_made.Holds := by
  w_on; o_law
  refine HandSHeadRun.head_any (r := Ow.R) (q := view Ow.R.prog [36]) (H := Ow.hk) (ob := Ow.ob) (M := 100000) (loose := Ow.nms) (d := HandSHeadRun.topDef Ow.R.prog 36) (kwd := []) Ow.ob_eq
    (by kernel_rfl) (fun s => by kernel_rfl) Ow.run (by kernel_rfl) (by kernel_rfl) (by kernel_rfl) (by rfl) (by first | assumption | decide +kernel) (by decide +kernel) ⟨rfl, rfl, rfl, rfl, rfl, by decide +kernel⟩ ?hw ?hc
  case hw => w_witness2
  case hc =>
    refine Ow.walk_end (l := PySem.Challenge.rw_owedrebuilds_k01_errors_made) (n := 63) (k := 5) (x := "_law_script") rfl (by decide) (by kernel_rfl) ⟨rfl, by decide, by decide⟩ ?F
    intro w mg fa h Y G hmg0
    obtain ⟨K, KX, c⟩ := Y
    have hmg : mg ("law" : PySem.Str) = some (.ref fa) := by
      have e : (HandSHeadRun.topDef Ow.R.prog 36).name = ("law" : PySem.Str) := by kernel_rfl
      rw [← e]
      exact hmg0
    obtain ⟨fd, hb, hF⟩ := Ow.facts (w := w) KX G hmg c
    exact ⟨K, fd, Ow.spLaw K, KX, hb, fun H a ns hl _ _ hS => ⟨a, ns, rfl, hS, hl, fun _ => rfl⟩, hF⟩
