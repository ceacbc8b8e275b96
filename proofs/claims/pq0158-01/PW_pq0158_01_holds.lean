import PyProof.Rows.All
import Wide.All
import OpenK.AllK
import Wide.FinOn
import PySem.Challenge.RW_pq0158_01
set_option Elab.async false
set_option linter.unusedVariables false
section
open PySem PySem.W PyProof.Rows
namespace Mine
set_option maxRecDepth 100000 in
set_option maxHeartbeats 8000000 in
open_top hd for PySem.Challenge.rw_pq0158_01
end Mine
end
section
local macro_rules | `(tactic| walk_at $s:str) => `(tactic| k_extra $s)
section
open PySem PySem.W PyProof.Rows PySem.Calls
set_option maxRecDepth 100000
namespace Mine
namespace BE
theorem slot_wd_get : Slot "wrapper_descriptor" "__get__" "wrapper_descriptor.__get__" := .of (owner := "wrapper_descriptor") (n := "__get__") (by rw [typeLookup_type, builtinLookup_eq_fast]; kernel_rfl) (by decide +kernel) (by decide +kernel) (by decide +kernel)
    (by first | exact .inl (by decide +kernel) | exact .inr (by decide +kernel)) (by rw [isSubtype_type]; kernel_rfl)
theorem entry_wd_get : entryFor table "wrapper_descriptor.__get__" = some Builtin.«wrapper_descriptor.__get__» := entryFor_of_tree (by kernel_rfl)
theorem args_wd_get (a b c : Value) : argsOk "wrapper_descriptor.__get__" ⟨[a, b, c], []⟩ := by unfold argsOk; kernel_rfl
theorem typeOf_einit : typeOf (.builtin "Exception.__init__") = pure (.type "wrapper_descriptor") := by kernel_rfl
theorem entry_einit : entryFor table "Exception.__init__" = some Builtin.«BaseException.__init__» :=
  entryFor_alias (id' := "BaseException.__init__") (by kernel_rfl) (by first | rfl | decide +kernel) (by decide +kernel) (by kernel_rfl)
theorem plain_einit : plainId "Exception.__init__" = true := by decide +kernel
theorem owner_einit : (".".intercalate ("Exception.__init__".cutAt '.').dropLast) = "Exception" := by
  have e0 : "Exception.__init__".cutAt '.' = ["Exception", "__init__"] := by first | rfl | decide +kernel
  rw [e0]; decide +kernel
theorem store_Exception : StoreFacts "Exception" [.type "Exception", .type "BaseException", .type "object"] "object.__setattr__" "object" where
  mro := by rw [mroOf_type]; kernel_rfl
  slot := .of (owner := "object") (n := "__setattr__") (by rw [typeLookup_type, builtinLookup_eq_fast]; kernel_rfl) (by decide +kernel) (by decide +kernel) (by decide +kernel)
    (by first | exact .inl (by decide +kernel) | exact .inr (by decide +kernel)) (by rw [isSubtype_type]; kernel_rfl)
  entry := PySem.F.entry_object_sa
  kind := by decide +kernel
  split := by decide +kernel
  hasOwner := by decide +kernel
  args := fun a b c => by unfold argsOk; kernel_rfl
  passes := fun self => by kernel_rfl
end BE
end Mine
end
section
open PySem PySem.W PyProof.Rows PySem.Calls
set_option maxRecDepth 100000
namespace Mine
namespace BE
open Builtin Builtin.ObjectAttr
section
variable {prog : Program} {w : World} {M : Model} {A : Around} {E : Value → Shared → Prop} {h : Heap} {g : Array GenState} {d : Drawn} {t : Nat} {os : OsState}

abbrev excBm : List Value := [.type "Exception", .type "BaseException", .type "object"]

set_option maxHeartbeats 2000000 in
theorem super_ga {so D x C : Addr} {ox : Obj} {l₀ l : List Value} {K : Frag} {tk : Tok} {Q : Fin → Shared → Prop}
    (hso : h.get? so = some { cls := .type "super", dict := none, data := .fields #[.ref D, .ref x, .ref C], slots := #[] }) (hno : Looks (model prog w) h (opaqueClassAbove (.ref C)) none)
    (hC : Looks (model prog w) h (mroOf (.ref C)) l₀) (hl : (l₀.dropWhile (· != .ref D)).drop 1 = l) (X : K.In h)
    (hf : alongIn K "__init__" l = some (some (.builtin "Exception.__init__"))) (hxC : x ≠ C) 
    (hx : h.get? x = some ox) (hxc : ox.cls = .ref C) (hsub : Looks (model prog w) h (isSubtype (.ref C) (.type "Exception")) true)
    (hq : Q (.done (.ret (.ref h.objs.size))) ⟨h.push { cls := .type "method-wrapper", data := .fields #[.builtin "Exception.__init__", .ref x] }, g, d, t, os⟩) :
    wpAny (model prog w) A (Builtin.«super.__getattribute__» ⟨[.ref so, .str "__init__" tk], []⟩) Q E ⟨h, g, d, t, os⟩ := by
  have hlk := slot_wd_get.lookup
  have hne : (Value.ref x == Value.ref C) = false := by simp [hxC]
  have hTf : (⟨h, g, d, t, os⟩ : Shared).TypeIs (.builtin "Exception.__init__") "wrapper_descriptor" := typeOf_einit
  have hdt : ({ cls := .type "super", dict := none, data := .fields #[.ref D, .ref x, .ref C], slots := #[] } : Obj).data = .fields #[.ref D, .ref x, .ref C] := rfl
  have f0 : (#[.ref D, .ref x, .ref C] : Array Value)[0]? = some (.ref D) := rfl
  have f1 : (#[.ref D, .ref x, .ref C] : Array Value)[1]? = some (.ref x) := rfl
  have f2 : (#[.ref D, .ref x, .ref C] : Array Value)[2]? = some (.ref C) := rfl
  have hn : (("__init__" : Str) == ("__class__" : Str)) = false := by decide
  have hot := typeOf_einit
  have how : isSubtype (.ref C) (.type (".".intercalate ("Exception.__init__".cutAt '.').dropLast)) = isSubtype (.ref C) (.type "Exception") := by rw [owner_einit]
  unfold Builtin.«super.__getattribute__»
  repeat (first
    | (with_reducible refine wpAny_field hso hdt f0 ?_) | (with_reducible refine wpAny_field hso hdt f1 ?_) | (with_reducible refine wpAny_field hso hdt f2 ?_)
    | (with_reducible refine ks_wpAny_notOpaque hno ?_)
    | (with_reducible refine Looks.at hC ?_; rw [hl])
    | ((with_reducible show wpAny _ _ (forIn _ _ _) _ _ _); refine ks_forIn_along X (fun _ _ => rfl) rfl ?_ hf)
    | (with_reducible refine wpAny_of_eq typeOf_einit ?_)
    | (with_reducible refine wpAny_call_entry slot_wd_get hTf entry_wd_get ?_ (args_wd_get _ _ _))
    | (with_reducible refine ⟨_, rfl, ?_⟩)
    | (simp only [hn, hne, Bool.or_false, Bool.false_eq_true, if_false])
    | (with_reducible refine wpAny_loadPart_at hx ?_; rw [hxc])
    | (with_reducible refine Looks.at hsub ?_)
    | rw [how]
    | wp_step
    | dsimp only)
  all_goals exact hq

theorem getMethod_super {so D x C : Addr} {ox : Obj} {l₀ l : List Value} {K : Frag} {pl : Sem Bool} {Q : Value × List Value → Shared → Prop}
    (hso : h.get? so = some { cls := .type "super", dict := none, data := .fields #[.ref D, .ref x, .ref C], slots := #[] }) (hno : Looks (model prog w) h (opaqueClassAbove (.ref C)) none)
    (hC : Looks (model prog w) h (mroOf (.ref C)) l₀) (hl : (l₀.dropWhile (· != .ref D)).drop 1 = l) (X : K.In h)
    (hf : alongIn K "__init__" l = some (some (.builtin "Exception.__init__"))) (hxC : x ≠ C) 
    (hx : h.get? x = some ox) (hxc : ox.cls = .ref C) (hsub : Looks (model prog w) h (isSubtype (.ref C) (.type "Exception")) true)
    (hq : Q (.ref h.objs.size, []) ⟨h.push { cls := .type "method-wrapper", data := .fields #[.builtin "Exception.__init__", .ref x] }, g, d, t + 1, os⟩) :
    wpAny (model prog w) A (getMethod (.ref so) "__init__" pl) Q E ⟨h, g, d, t, os⟩ := by
  have hlk := F.ks_slot_super_ga.lookup
  have hcan := F.ks_canon_super_ga
  have hT : ∀ t', (⟨h, g, d, t', os⟩ : Shared).TypeIs (.ref so) "super" := fun _ => ⟨_, hso, rfl⟩
  unfold getMethod
  refine wpAny_bind (wpAny_specialOf (hT _) hlk ?_)
  show wpAny _ _ (if (Manifest.canonical "super.__getattribute__" != "object.__getattribute__") = true then _ else _) _ _ _
  rw [if_pos hcan]
  unfold getAttr getAttrBy
  refine wpAny_bind (wpAny_bind (wpAny_mkText (wpAny_holding (wpAny_bind (wpAny_typeOf (hT _) (wpAny_bind (wpAny_of_eq hlk ?_)))))))
  show wpAny _ _ (getAttrByItsOwn (.ref so) (.str "__init__" t) (.type "super") (.builtin "super.__getattribute__") true false) _ _ _
  unfold getAttrByItsOwn hookBefore callGetattribute boundAndCalled
  refine wpAny_bind (wpAny_of_eq (show (if onTheHeap (.type "super") then typeLookup (.type "super") "__getattr__" else pure none) = pure none from rfl) ?_)
  refine wpAny_bind (wpAny_attempt (wpAny_holding ?_))
  show wpAny _ _ (bindSpecial (.builtin "super.__getattribute__") (.ref so) >>= _) _ _ _
  refine wpAny_bind (wpAny_of_eq (F.ks_slot_super_ga.bind _) ?_)
  refine wpAny_mono (Q := fun v s' => v = .ref h.objs.size ∧ s' = ⟨h.push { cls := .type "method-wrapper", data := .fields #[.builtin "Exception.__init__", .ref x] }, g, d, t + 1, os⟩) (E := fun _ _ => False)
    (wpAny_call_entry F.ks_slot_super_ga (hT _) F.ks_entry_super_ga (super_ga hso hno hC hl X hf hxC hx hxc hsub ⟨_, rfl, rfl, rfl⟩) (F.ks_gaArgs_super _ _)) (fun v s' hv => ?_) fun _ _ z => z.elim
  obtain ⟨rfl, rfl⟩ := hv
  exact wpAny_pure (wpAny_pure hq)

theorem call_mw {q e t0 : Addr} {oe : Obj} {vs : Array Value} {v : Value} {Q : Value → Shared → Prop}
    (hq' : h.get? q = some { cls := .type "method-wrapper", data := .fields #[.builtin "Exception.__init__", .ref e] })
    (he : h.get? e = some oe) (hd : oe.data = .fields vs) (h0 : vs[0]? = some (.ref t0))
    (hchk : ∀ (A : Around) (Q : Unit → Shared → Prop) (E : Value → Shared → Prop), Q () ⟨h, g, d, t, os⟩ → wpAny (model prog w) A (checkBoundCall "Exception.__init__" ⟨[.ref e, v], []⟩) Q E ⟨h, g, d, t, os⟩)
    (hq : Q .none ⟨(h.push { cls := .type "tuple", data := .seq #[v] }).update e (Obj.mapFields (·.setIfInBounds 0 (.ref h.objs.size))), g, d, t, os⟩) :
    wpAny (model prog w) A (call (.ref q) [v]) Q E ⟨h, g, d, t, os⟩ := by
  refine wpAny_call (codeAny_of_tree ?_)
  show wpAny _ A.in1 (callAny (.ref q) _) _ _ _
  unfold callAny
  refine wpAny_bind (wpAny_load hq' ?_)
  show wpAny _ _ (checkBoundCall "Exception.__init__" ⟨[.ref e, v], []⟩ >>= fun _ => again (.builtin "Exception.__init__" ⟨[.ref e, v], []⟩)) _ _ _
  refine wpAny_bind (hchk _ _ _ (wpAny_pure ⟨plainId_quiet plain_einit _, codeAny_builtin entry_einit ?_⟩))
  unfold Builtin.«BaseException.__init__»
  dsimp only
  rw [if_neg (by simp)]
  unfold newTuple Builtin.BaseException.bexcPut
  have hsz : 0 < vs.size := (Array.getElem?_eq_some_iff.mp h0).1
  have he₁ := Heap.get?_push_of_some (h := h) { cls := .type "tuple", data := .seq [v].toArray } he
  refine wpAny_bind (wpAny_newObj_type (wpAny_bind (wpAny_bind (wpAny_field he₁ hd h0 (wpAny_bind (wpAny_setField he₁ hd hsz ?_))))) (by size_fits))
  exact wpAny_letGo (wpAny_pure hq)


end
end BE
end Mine
end
section
open PySem PySem.W PyProof.Rows PySem.Calls
set_option maxRecDepth 100000
namespace Mine
namespace BE
open Builtin Builtin.ObjectAttr
section
variable {prog : Program} {w : World} {M : Model} {A : Around} {E : Value → Shared → Prop} {h : Heap} {g : Array GenState} {d : Drawn} {t : Nat} {os : OsState}
variable {nm q : Str} {C N : Addr} {bs bm : List Value} {hdct : Bool} {sn : List Str} {sub : List Value} {ab : Bool} {col : Option Bool} {dd : Option Addr} {k0 k1 k2 k3 k5 : Option Value}
theorem chk_einit {e : Addr} {oe : Obj} {rest : List Value} {Q : Unit → Shared → Prop}
    (hC : h.get? C = some (excClassObj nm q C N bs excBm hdct sn sub ab col dd k0 k1 k2 k3 k5 "Exception.__new__")) (he : h.get? e = some oe) (hcls : oe.cls = .ref C) (hq : Q () ⟨h, g, d, t, os⟩) :
    wpAny M A (checkBoundCall "Exception.__init__" ⟨.ref e :: rest, []⟩) Q E ⟨h, g, d, t, os⟩ := by
  have FB := PySem.F.excBase_Exception
  have hcB : (Value.ref C :: excBm).contains (.type "Exception") = true := by rw [List.contains_cons, FB.hasB, Bool.or_true]
  have hshort := FB.noStar
  simp only [checkBoundCall, FB.initKind, FB.initSplit, FB.initRow]
  repeat (first | (with_reducible refine wpAny_loadPart_at he ?_; rw [hcls]) | with_reducible refine wpAny_loadPart_at hC ?_ | (with_reducible refine wpAny_isSubtype_exc hC ?_; rw [hcB]) | wp_step)
  refine wpAny_onRaise ?_
  rw [show ∀ (a b : String) (n : Nat), Bind.check ⟨.positional, "*", "Exception", .self, [⟨"args", .varPos, false⟩]⟩ a b n (List.map (fun x => x.fst) ({ pos := Value.ref e :: rest } : Args).kw) = pure () from
    fun a b n => check_star_args _ _ _ _ _ _]
  exact wpAny_pure hq
end
end BE
end Mine
end
section
open PySem PySem.W PyProof.Rows PySem.Calls
set_option maxRecDepth 100000
namespace Mine
namespace BE
open Builtin Builtin.ObjectAttr
section
variable {prog : Program} {w : World} {A : Around} {E : Value → Shared → Prop} {h : Heap} {g : Array GenState} {d : Drawn} {t : Nat} {os : OsState}
variable {nm q : Str} {C N x : Addr} {bs bm : List Value} {sn : List Str} {sub : List Value} {ab : Bool} {col : Option Bool} {dd : Option Addr} {k0 k1 k2 k3 k5 : Option Value} {B newId sa owner : String}
  {mN mA : Str → Option Value} {name : Str} {v : Value}
theorem first_entry {tk : Tok} {o : Obj} {Q : Fin → Shared → Prop} (SF : StoreFacts B bm sa owner)
    (hC : h.get? C = some (excClassObj nm q C N bs bm true sn sub ab col dd k0 k1 k2 k3 k5 newId)) (hn : h.Ns N mN) (hna : mN name = none)
    (hB : typeLookup (.type B) name = pure none) (hx : h.get? x = some o) (hc : o.cls = .ref C) (hnc : ∀ c, o.data ≠ .cls c) (hdn : o.dict = none)
    (hq : ∀ h' tk' dx, h'.get? x = some { o with dict := some dx } → h'.Ns1 dx (fun y => if y = name then some v else none) → h.get? dx = none → (∀ b o, h.get? b = some o → b < dx) →
      (∀ b ob, b ≠ x → h.get? b = some ob → h'.get? b = some ob) → Q (.done (.ret .none)) ⟨h', g, d, tk', os⟩) :
    wpAny (model prog w) A (Builtin.«object.__setattr__» ⟨[.ref x, .str name tk, v], []⟩) Q E ⟨h, g, d, t, os⟩ := by
  have hpass := SF.passes (.ref x)
  unfold Builtin.«object.__setattr__»
  repeat (first | rw [refuse_eq] | (rw [refuseLoop_ref, hpass]) | (with_reducible refine wpAny_loadPart_at hx ?_; rw [hc]) | with_reducible refine wpAny_mroOf_exc hC ?_ | (with_reducible refine wpAny_typeLookup_exc hC hn SF.mro hB ?_; rw [hna]) | wp_step)
  rw [hdn, if_neg (by simp [typeHasDict])]
  split
  · rename_i hcd
    cases hcd
  split
  · rename_i c hcd
    exact absurd hcd (hnc c)
  have hx₁ : (h.push { cls := .type "dict", data := .dict #[] }).get? x = some o := Heap.get?_push_of_some _ hx
  have hxs : x ≠ h.objs.size := Nat.ne_of_lt (Heap.lt_size hx)
  refine wpAny_bind (wpAny_alloc' ?_)
  refine wpAny_bind (wpAny_update' hx₁ ?_)
  refine wpAny_pure ?_
  have hgd : ((h.push { cls := .type "dict", data := .dict #[] }).update x fun o => { cls := o.cls, dict := some h.objs.size, data := o.data, slots := o.slots }).get? h.objs.size
      = some { cls := .type "dict", data := .dict #[] } :=
    (Heap.get?_update_ne _ _ _ _ hxs.symm).trans (Heap.get?_push_at rfl rfl)
  have hnd : ((h.push { cls := .type "dict", data := .dict #[] }).update x fun o => { cls := o.cls, dict := some h.objs.size, data := o.data, slots := o.slots }).Ns h.objs.size (fun _ => none) :=
    ⟨_, #[], _, hgd, rfl, fun e he => absurd he (by simp), fun _ => rfl⟩
  show wpAny _ _ (storeInDict h.objs.size (.str name tk) name v) _ _ _
  unfold storeInDict newKeyGuard
  refine wpAny_bind (wpAny_pure (wpAny_bind (wpAny_nsSet1 (Heap.Ns1.of_empty hnd) fun h' hn' hs => ?_)))
  obtain ⟨oD, esD, epD, hoD, hdD, hcD⟩ := hn'.count (Within.cons name v Within.nil)
  refine wpAny_bind (wpAny_lookBehind hoD (by rw [hdD]; exact pastItsLine_dict (Nat.le_trans hcD (by rw [List.length_cons, List.length_nil, sizeLine_eq]; omega))) ?_)
  wp_walk
  refine hq h' _ h.objs.size ?_ hn' (Heap.get?_none_of_le (Nat.le_refl _)) (fun b o hb => Heap.lt_size hb) fun b ob hbx hb => ?_
  · refine (hs.2 x hxs).trans (Heap.get?_update_self _ hx₁ ?_)
    have hfr := (Heap.get?_some_iff.mp hx).2
    obtain ⟨oc, od, odt, osl⟩ := o
    cases odt <;> first | rfl | exact hfr
  · exact (hs.2 b (Nat.ne_of_lt (Heap.lt_size hb))).trans ((Heap.get?_update_ne _ _ _ _ hbx).trans (Heap.get?_push_of_some _ hb))

theorem first_attr {o : Obj} {Q : Unit → Shared → Prop} (SF : StoreFacts B bm sa owner)
    (hC : h.get? C = some (excClassObj nm q C N bs bm true sn sub ab col dd k0 k1 k2 k3 k5 newId)) (hn : h.Ns N mN) (hns : mN "__setattr__" = none) (hna : mN name = none)
    (hB : typeLookup (.type B) name = pure none) (hx : h.get? x = some o) (hc : o.cls = .ref C) (hnc : ∀ c, o.data ≠ .cls c) (hdn : o.dict = none)
    (hq : ∀ h' tk' dx, h'.get? x = some { o with dict := some dx } → h'.Ns1 dx (fun y => if y = name then some v else none) → h.get? dx = none → (∀ b o, h.get? b = some o → b < dx) →
      (∀ b ob, b ≠ x → h.get? b = some ob → h'.get? b = some ob) → Q () ⟨h', g, d, tk', os⟩) :
    wpAny (model prog w) A (setAttr (.ref x) name v) Q E ⟨h, g, d, t, os⟩ := by
  have f3 := SF.slot.bind (.ref x)
  unfold setAttr callSpecial? specialOf
  repeat (any_goals (first | assumption | (with_reducible refine wpAny_loadPart_at hx ?_; rw [hc]) | (with_reducible refine wpAny_typeLookup_exc hC hn SF.mro SF.slot.lookup ?_; rw [hns]) | wp_step))
  refine codeAny_call_builtin SF.slot.plain SF.entry (wpAny_check_sa SF hC hx hc (first_entry SF hC hn hna hB hx hc hnc hdn fun h' tk' dx a1 a2 a3 a4 a5 => ?_))
  repeat (any_goals (first | assumption | wp_step))
  exact hq h' tk' dx a1 a2 a3 a4 a5
end
end BE
end Mine
end
section
open PySem PySem.W PyProof.Rows PySem.Calls
set_option maxRecDepth 100000
namespace Mine
namespace BE
open Builtin Builtin.ObjectAttr
abbrev excO (dx : Option Addr) (t : Addr) : Obj := { cls := .ref 34, dict := dx, data := .fields #[.ref t, .none, .none, .none, .bool false, .none] }
abbrev mwO (e : Addr) : Obj := { cls := .type "method-wrapper", data := .fields #[.builtin "Exception.__init__", .ref e] }
def MwAt (u e : Addr) (h : Heap) : Prop := h.get? u = some (mwO e)
section
variable {M : Model} {A : Around} {E : Value → Shared → Prop} {s : Shared}
theorem callWith_mwF {pos : Pos} {u e' : Addr} {first : List Value} {args : List (Bool × Sem Value)} {Q : Value → Shared → Prop} (hplain : args.any (·.1) = false)
    (h : wpAny M A (evalArgs (.ref u) true args []) (fun x s₁ => MwAt u e' s₁.heap ∧ wpAny M A (call (.ref u) (first ++ x.pos) x.kw) Q E s₁) E s) : wpAny M A (callWith pos (.ref u) first args []) Q E s := by
  unfold callWith
  refine wpAny_bind (wpAny_holding (wpAny_mono h (fun x s₁ h₁ => wpAny_bind (wpAny_standAt ?_)) fun _ _ x => x))
  obtain ⟨ho, hcall⟩ := h₁
  simp only [hplain, List.any_nil, Bool.or_false]
  refine wpAny_bind (m := keeperOf (.ref u)) ?_
  unfold keeperOf
  refine wpAny_bind (wpAny_load ho ?_)
  simp only [show (Value.type "method-wrapper" != Value.type "method") = true by decide, show (Value.type "method-wrapper" == Value.type "builtin_function_or_method" || Value.type "method-wrapper" == Value.type "method-wrapper") = true by decide, if_true]
  refine wpAny_pure ?_
  exact wpAny_bind (wpAny_mono hcall (fun r s₂ hr => wpAny_bind (wpAny_holding (wpAny_point (wpAny_pure hr)))) fun _ _ x => x)
theorem callWith_mw {pos : Pos} {u e' : Addr} {first : List Value} {env : Env} {e : Expr} {rest : List Expr} {Q : Value → Shared → Prop}
    (h : wpAny M A (spliced (backTo pos (starEach (e :: rest) env))) (fun vs s₁ => MwAt u e' s₁.heap ∧ wpAny M A (call (.ref u) (first ++ vs)) Q E s₁) E s)
    (he : starEach (e :: rest) env = (false, eval e env) :: starEach rest env := by rfl) (hplain : (backTo pos (starEach rest env)).any (·.1) = false := by rfl) :
    wpAny M A (callWith pos (.ref u) first (backTo pos (starEach (e :: rest) env)) []) Q E s := by
  rw [he] at h ⊢
  refine callWith_mwF (e' := e') (by show (false || (backTo pos (starEach rest env)).any (·.1)) = false; rw [hplain]; rfl) ?_
  exact evalArgs_plain h
end
section
theorem ns_some {K : Frag} {h : Heap} {N : Addr} {mN : Str → Option Value} {n : Str} {r : Option Value} (X : K.In h) (G : h.Ns N mN) (e : nsIn K N n = some r) : mN n = r := by
  cases r with
  | none => exact ns_none_of X G e
  | some v =>
    obtain ⟨o, es, ep, ho, hd, _, hf⟩ := G
    unfold nsIn at e
    split at e
    · rename_i c d es' n' sl q
      have := X _ _ q
      rw [ho] at this
      cases this
      cases hd
      split at e
      · rename_i en he
        cases e
        rw [← hf]
        show (findBy _ _ _) = _
        unfold findBy
        rw [← Array.find?_toList, he]
        rfl
      · split at e <;> cases e
    · cases e
def clsOk (K : Frag) (C N : Addr) (bm' : List Value) (newId : String) : Bool := match K.lookup C with
  | some ⟨.type "type", _, .cls cd, sl⟩ => (match cd.mro, sl.toList with
    | .ref C' :: bm, [_, _, _, _, some (.builtin n), _] => C' == C && !cd.hasDel && cd.hasDict && bm == bm' && cd.ns == N && n == newId
    | _, _ => false)
  | _ => false
theorem cls_of {K : Frag} {h : Heap} {C N : Addr} {bm : List Value} {newId : String} (X : K.In h) (q : clsOk K C N bm newId = true) : ∃ nm qn bs sn sub ab col dd k0 k1 k2 k3 k5,
    h.get? C = some (excClassObj nm qn C N bs bm true sn sub ab col dd k0 k1 k2 k3 k5 newId) := by
  unfold clsOk at q
  split at q
  · rename_i dd cd sl ho
    split at q
    · rename_i C' bm k0 k1 k2 k3 n k5 hm hs
      simp only [Bool.and_eq_true, beq_iff_eq, Bool.not_eq_true'] at q
      obtain ⟨⟨⟨⟨⟨rfl, hdel⟩, hdct⟩, rfl⟩, hns⟩, rfl⟩ := q
      obtain ⟨nm, bs, mro, ns, qn, hd, sn, sub, ab, col, del⟩ := cd
      dsimp only at hm hdel hdct hns
      subst hm hdel hdct hns
      have hsl : sl = #[k0, k1, k2, k3, some (.builtin n), k5] := by
        obtain ⟨l⟩ := sl
        simp only at hs
        rw [hs]
      subst hsl
      exact ⟨nm, qn, bs, sn, sub, ab, col, dd, k0, k1, k2, k3, k5, X _ _ ho⟩
    · cases q
  · cases q
theorem clsOk34 (P : Params) : clsOk (hd.heap_39 P) 34 33 excBm "Exception.__new__" = true := by kernel_rfl
theorem nsOk33 (P : Params) : nsOkIn (hd.heap_39 P) 33 = true := by kernel_rfl
theorem ns33_init (P : Params) : nsIn (hd.heap_39 P) 33 "__init__" = some (some (.ref 31)) := by kernel_rfl
theorem ns33_sa (P : Params) : nsIn (hd.heap_39 P) 33 "__setattr__" = some none := by kernel_rfl
theorem ns33_code (P : Params) : nsIn (hd.heap_39 P) 33 "code" = some none := by kernel_rfl
theorem ns33_told (P : Params) : nsIn (hd.heap_39 P) 33 "told" = some none := by kernel_rfl
theorem lk_code : typeLookup (.type "Exception") "code" = pure none := by rw [typeLookup_type, builtinLookup_eq_fast]; kernel_rfl
theorem lk_told : typeLookup (.type "Exception") "told" = pure none := by rw [typeLookup_type, builtinLookup_eq_fast]; kernel_rfl
end
theorem fr_but {g h h' : Heap} {L x : Addr} {m : Str → Option Value} (F : Fr g L h m) (hL : L ≠ x) (hx : g.get? x = none) (k : ∀ b o, b ≠ x → h.get? b = some o → h'.get? b = some o) : Fr g L h' m :=
  ⟨let ⟨o, es, ep, ho, r⟩ := F.ns; ⟨o, es, ep, k _ _ hL ho, r⟩, fun b o e => k b o (fun q => by rw [q, hx] at e; cases e) (F.keep b o e), F.above⟩
theorem news_but {g h h' : Heap} {L x : Addr} {news : List (Addr × Obj)} (N : News g L h news) (hne : ∀ p ∈ news, p.1 ≠ x) (k : ∀ b o, b ≠ x → h.get? b = some o → h'.get? b = some o) : News g L h' news :=
  fun p hp => ⟨k _ _ (hne p hp) (N p hp).1, (N p hp).2⟩
def codeMap (x : Str) (tk : Tok) (v : Value) (y : Str) : Option Value := if y = "told" then some v else if y = "code" then some (.str x tk) else none
section
variable {w : World} {A A₀ : Around} {E : Value → Shared → Prop} {s : Shared} {p : Program} {loose : List Str} {mean : ExcName → Option Value} {mg mb : Str → Option Value} {env : Env} {outer : List Env} {base h₀ : Heap} {L : Addr} {m : Str → Option Value}
set_option maxHeartbeats 4000000 in
theorem be_init {news : List (Addr × Obj)} {e t0 : Addr} {x : Str} {tk : Tok} {Q : Value → Shared → Prop}
    (B : Below A₀ base outer h₀) (F : Fr h₀ L s.heap m) (X : (hd.heap_39 w.params).In h₀) (N : News h₀ L s.heap ((e, excO none t0) :: news)) (hne : ∀ p ∈ news, p.1 ≠ e) (T : Top p loose mean mg mb h₀)
    (hA : A.frames = some (env :: outer)) (hf : env.frame = some L) (hke : env.scope.kind = .function) (hroom : A.depth + 3 < recursionLimit)
    (h : ∀ h' tk' t v dx od, Fr h₀ L h' m → News h₀ L h' ((dx, od) :: news) → (∃ o, h'.get? e = some o ∧ o.cls = .ref 34 ∧ o.data = .fields #[.ref t, .none, .none, .none, .bool false, .none] ∧ o.dict = some dx) → h'.TupAt t [.str x tk] → h'.Inst e 34 (codeMap x tk v) →
      h₀.get? t = none → (∀ p ∈ ((dx, od) :: news), p.1 ≠ t) → t ≠ e → dx ≠ e → Q .none { s with heap := h', toks := tk' }) :
    wpAny (model PySem.Challenge.rw_pq0158_01.row.prog w) A (call (.ref 31) [.ref e, .str x tk]) Q E s := by
  w_top off
  k_with_none
  have hK : (PySem.Challenge.rw_pq0158_01 = PySem.Challenge.rw_pq0158_01 ∧ Mine.hd.heap_39 = Mine.hd.heap_39) := by
    k_fill
    exact ⟨rfl, rfl⟩
  clear hK
  refine wpAny_call ?_
  k_dflt (refine' ks_code_super B F X N T hA hf hke ?k6 ?k7 ?k8 ?k9 ?kB ?_ ?c1 ?c2 ?c3 ?c4; (case k6 => k_is); (case k7 => k_is); (case k8 => omega); (case k9 => first | exact binds_K (by k_in) rfl (by k_is) rfl rfl rfl | exact BindsTo.of_eq rfl); (case kB => exact locs rfl); (case c1 => decide); (case c2 => exact rfl); (case c3 => exact rfl); (case c4 => exact rfl); intro g' L' h' FG' F' N' B' X' T' l1)
  k_steps
  have I0 : InstAt h' e (excO none t0) 34 none := ⟨(N' _ (.head _)).1, rfl, rfl, trivial⟩
  k_dflt (refine ks_node (s := { s with heap := h', toks := _ }) F' X' N' T' (by k_is) (by rfl) (by rfl) I0 (by k_is) (by rfl) (by decide +kernel) (by k_is) (by k_is) (by k_is) (by k_is) (by decide) (by rfl) (by rfl) (by rfl) (by rfl) (by decide +kernel) (by first | boot_by_name | rfl | kernel_rfl) ?_)
  intro so h2 F2 N2 l2
  have XX := X'.keeps F2.keep
  have hso := (N2 _ (.head _)).1
  have hee := (N2 _ (.tail _ (.head _))).1
  have hxC : e ≠ 34 := fun q => by
    have := (N2 _ (.tail _ (.head _))).2.2
    rw [q] at this
    obtain ⟨o, ho⟩ : ∃ o, (hd.heap_39 w.params).lookup 34 = some o := ⟨_, by k_is⟩
    rw [X' _ _ ho] at this; cases this
  k_dflt (refine getMethod_super (l₀ := [.ref 34, .type "Exception", .type "BaseException", .type "object"]) hso (looks_opaque XX (by k_is)) ?a1 rfl XX ?a2 hxC hee rfl ?a3 ?_)
  case a1 => exact fun A Q E s k q => wpAny_bind ((looks_clsIn XX (cd := _) (by k_is)) A _ E s k (wpAny_pure q))
  case a2 => kernel_rfl
  case a3 => exact looks_mroIn XX (by k_is)
  obtain ⟨F3, N3, l3⟩ := ks_newsPush (s := { s with heap := h2, toks := 0 }) (o := mwO e) F2 N2 rfl (Heap.get?_push_at rfl rfl) (fun b o q => Heap.get?_push_of_some _ q)
  have hmw := (N3 _ (.head _)).1
  have hee3 := (N3 _ (.tail _ (.tail _ (.head _)))).1
  generalize h2.push (mwO e) = h3 at F3 N3 hmw hee3 ⊢
  generalize h2.objs.size = q3 at N3 l3 hmw ⊢
  k_dflt (refine callWith_mw (e' := e) ?_)
  have XX3 := X'.keeps F3.keep
  k_steps
  · exact hmw
  · obtain ⟨nm, qn, bs, sn, sub, ab, col, dd, k0, k1, k2, k3, k5, hC⟩ := cls_of XX3 (clsOk34 w.params)
    k_dflt (refine call_mw hmw hee3 rfl rfl (fun A Q E q => chk_einit hC hee3 rfl q) ?_)
    have N3' : News g' L' h3 ((e, excO none t0) :: news) := fun p hp => N3 p (.tail _ (.tail _ hp))
    have N4 := News.push F3 N3' { cls := .type "tuple", data := .seq #[.str x tk] }
    have F4 := F3.push { cls := .type "tuple", data := .seq #[.str x tk] }
    have hse : h3.objs.size ≠ e := Nat.ne_of_gt (Heap.lt_size hee3)
    obtain ⟨F5, N5⟩ := news_upd (pre := [(h3.objs.size, _)]) (post := news) (o' := excO none h3.objs.size) (f := Obj.mapFields (·.setIfInBounds 0 (.ref h3.objs.size))) F4 N4 (fun p hp => by rw [List.mem_singleton.mp hp]; exact hse) hne rfl rfl
    have l5 : ∀ p ∈ news, p.1 ≠ h3.objs.size := fun p hp => Nat.ne_of_lt (Heap.lt_size (N3' p (.tail _ hp)).1)
    simp only [List.cons_append, List.nil_append] at N5
    generalize ((h3.push { cls := .type "tuple", data := .seq #[.str x tk] }).update e (Obj.mapFields (·.setIfInBounds 0 (.ref h3.objs.size)))) = h5 at F5 N5 ⊢
    generalize h3.objs.size = t5 at N5 hse l5 ⊢
    clear N4 F4 N3' N3 F3 hmw hee3 hC XX3 l3 hso hee XX N2 F2 l2
    k_steps
    obtain ⟨nm, qn, bs, sn, sub, ab, col, dd, k0, k1, k2, k3, k5, hC⟩ := cls_of (X'.keeps F5.keep) (clsOk34 w.params)
    have hN := Heap.Ns.of_isNs (isNs_of_in (X'.keeps F5.keep) (nsOk33 w.params))
    have he5 := N5 _ (.tail _ (.head _))
    refine first_attr store_Exception hC hN (ns_some (X'.keeps F5.keep) hN (ns33_sa _)) (ns_some (X'.keeps F5.keep) hN (ns33_code _)) lk_code he5.1 rfl (fun c q => by cases q) rfl fun h6 tk6 dx a1 a2 a3 a4 a5 => ?_
    have F6 := fr_but F5 (Ne.symm he5.2.1) he5.2.2 a5
    have N6 : News g' L' h6 ((t5, { cls := Value.type "tuple", data := Data.seq #[Value.str x tk] }) :: news) := by
      refine news_but (x := e) (fun p hp => N5 p ?_) (fun p hp => ?_) a5
      · rcases List.mem_cons.mp hp with rfl | hp
        · exact .head _
        · exact .tail _ (.tail _ hp)
      · rcases List.mem_cons.mp hp with rfl | hp
        · exact hse
        · exact hne p hp
    have dfr : ∀ b o, h5.get? b = some o → b ≠ dx := fun b o q => Nat.ne_of_lt (a4 b o q)
    have dL : L' ≠ dx := by
      obtain ⟨o, _, _, ho, _⟩ := F5.ns
      exact dfr _ _ ho
    have dg : ∀ b o, g'.get? b = some o → b ≠ dx := fun b o q => dfr b o (F5.keep b o q)
    have dn : ∀ p ∈ (t5, ({ cls := Value.type "tuple", data := Data.seq #[Value.str x tk] } : Obj)) :: news, p.1 ≠ dx := fun p hp => by
      rcases List.mem_cons.mp hp with rfl | hp
      · exact dfr _ _ (N5 _ (.head _)).1
      · exact dfr _ _ (N5 _ (.tail _ (.tail _ hp))).1
    have de : e ≠ dx := dfr _ _ he5.1
    have hLe : L' ≠ e := Ne.symm he5.2.1
    have hge := he5.2.2
    clear N5 F5 a5 a4 a3 dfr he5 hC hN
    k_steps
    obtain ⟨nm, qn, bs, sn, sub, ab, col, dd, k0, k1, k2, k3, k5, hC⟩ := cls_of (X'.keeps F6.keep) (clsOk34 w.params)
    have hN := Heap.Ns.of_isNs (isNs_of_in (X'.keeps F6.keep) (nsOk33 w.params))
    have I6 : h6.Inst e 34 (fun y => if y = "code" then some (Value.str x tk) else none) := ⟨_, a1, rfl, (fun c q => by cases q), .inr ⟨dx, rfl, Ne.symm de, a2⟩⟩
    refine store_attr store_Exception hC hN (ns_some (X'.keeps F6.keep) hN (ns33_sa _)) (ns_some (X'.keeps F6.keep) hN (ns33_told _)) lk_told hxC I6 fun h7 tk7 I7 b1 b2 => ?_
    have b3 : ∀ b o, b ≠ e → b ≠ dx → h6.get? b = some o → h7.get? b = some o := fun b o q1 q2 q3 => b1 b o q1 (fun o₀ dx' z1 z2 => by rw [a1] at z1; cases z1; cases z2; exact q2) q3
    obtain ⟨o7, c1, c2, c3, _, c5⟩ := b2 _ a1
    have c6 := c5 dx rfl
    obtain ⟨od7, hod7⟩ : ∃ od7, h7.get? dx = some od7 := by
      obtain ⟨o, ho, _, _, hd⟩ := id I7
      rw [c1] at ho; cases ho
      rcases hd with ⟨hd, _⟩ | ⟨d, hd, _, od, _, _, hod, _⟩
      · rw [c6] at hd; cases hd
      · rw [c6] at hd; cases hd; exact ⟨od, hod⟩
    have gdx : g'.get? dx = none := by
      cases q : g'.get? dx with
      | none => rfl
      | some o => exact absurd rfl (dg _ _ q)
    have F7 : Fr g' L' h7 _ := ⟨let ⟨o, es, ep, ho, r⟩ := F6.ns; ⟨o, es, ep, b3 _ _ hLe dL ho, r⟩, fun b o q => b3 b o (fun z => by rw [z, hge] at q; cases q) (dg b o q) (F6.keep b o q), F6.above⟩
    have N7a : News g' L' h7 ((t5, { cls := Value.type "tuple", data := Data.seq #[Value.str x tk] }) :: news) := fun p hp => ⟨b3 _ _ (by
      rcases List.mem_cons.mp hp with rfl | hp
      · exact hse
      · exact hne p hp) (dn p hp) (N6 p hp).1, (N6 p hp).2⟩
    have N7 : News g' L' h7 ((t5, { cls := Value.type "tuple", data := Data.seq #[Value.str x tk] }) :: (dx, od7) :: news) := fun p hp => by
      rcases List.mem_cons.mp hp with rfl | hp
      · exact N7a _ (.head _)
      · rcases List.mem_cons.mp hp with rfl | hp
        · exact ⟨hod7, Ne.symm dL, gdx⟩
        · exact N7a _ (.tail _ hp)
    clear N7a
    k_steps
    (rename Fr _ _ _ _ => kF); (rename News _ _ _ _ => kN)
    exact h h7 tk7 t5 _ dx od7 kF (fun p hp => kN p (.tail _ hp)) ⟨o7, c1, c2, c3, c6⟩ ⟨_, _, (kN _ (.head _)).1, rfl, rfl⟩ I7 (kN _ (.head _)).2.2 (fun p hp => by
      rcases List.mem_cons.mp hp with rfl | hp
      · exact Ne.symm (dn _ (.head _))
      · exact l5 p hp) hse (Ne.symm de)
end
end BE
end Mine
end
section
open PySem PySem.W PyProof.Rows PySem.Calls
set_option maxRecDepth 100000
namespace Mine
namespace BE
def Soft (o o' : Obj) : Prop := o'.cls = o.cls ∧ o'.dict = o.dict ∧ (o'.data = o.data ∨ ∃ vs vs', o.data = .fields vs ∧ o'.data = .fields vs')
theorem Soft.refl (o : Obj) : Soft o o := ⟨rfl, rfl, .inl rfl⟩
theorem Soft.trans {a b c : Obj} (x : Soft a b) (y : Soft b c) : Soft a c := by
  refine ⟨y.1.trans x.1, y.2.1.trans x.2.1, ?_⟩
  rcases x.2.2 with h | ⟨v1, v2, h1, h2⟩ <;> rcases y.2.2 with k | ⟨w1, w2, k1, k2⟩
  · exact .inl (k.trans h)
  · exact .inr ⟨w1, w2, h ▸ k1, k2⟩
  · exact .inr ⟨v1, v2, h1, k.trans h2⟩
  · exact .inr ⟨v1, w2, h1, k2⟩
theorem Soft.free {o o' : Obj} (x : Soft o o') (h : o.isFreed = false) : o'.isFreed = false := by
  obtain ⟨a, b, c, d⟩ := o
  obtain ⟨a', b', c', d'⟩ := o'
  rcases x.2.2 with h1 | ⟨v1, v2, h1, h2⟩
  · dsimp only at h1; subst h1
    cases c' <;> first | rfl | exact h
  · dsimp only at h2; subst h2; rfl
def Kept (h h' : Heap) : Prop := ∀ b o, h.get? b = some o → ∃ o', h'.get? b = some o' ∧ Soft o o'
theorem Kept.refl (h : Heap) : Kept h h := fun _ o e => ⟨o, e, Soft.refl o⟩
theorem Kept.trans {h h₁ h₂ : Heap} (x : Kept h h₁) (y : Kept h₁ h₂) : Kept h h₂ := fun b o e =>
  let ⟨o₁, e₁, s₁⟩ := x b o e; let ⟨o₂, e₂, s₂⟩ := y b o₁ e₁; ⟨o₂, e₂, s₁.trans s₂⟩
theorem Kept.push (h : Heap) (o : Obj) : Kept h (h.push o) := fun _ o' e => ⟨o', Heap.get?_push_of_some _ e, Soft.refl _⟩
theorem Kept.update {h : Heap} {a : Addr} {f : Obj → Obj} (hf : ∀ o, Soft o (f o)) : Kept h (h.update a f) := fun b o e => by
  by_cases q : a = b
  · subst q
    exact ⟨f o, Heap.get?_update_self f e ((hf o).free (Heap.get?_some_iff.mp e).2), hf o⟩
  · exact ⟨o, (Heap.get?_update_other h f q).trans e, Soft.refl o⟩

def Gentle {α : Type} : Sem α → Prop
  | .pure _ => True
  | .raise _ => True
  | .unsupported _ => True
  | .finish _ => True
  | .rule _ k => ∀ x, Gentle (k x)
  | .at _ k => ∀ x, Gentle (k x)
  | .load _ _ k => ∀ x, Gentle (k x)
  | .update _ _ f k => (∀ o, Soft o (f o)) ∧ ∀ x, Gentle (k x)
  | .alloc _ k => ∀ x, Gentle (k x)
  | .register _ _ => True
  | .loadIfAlive _ k => ∀ x, Gentle (k x)
  | .point _ k => ∀ x, Gentle (k x)
  | .fresh k => ∀ x, Gentle (k x)
  | .ask k => ∀ x, Gentle (k x)
  | .choose _ _ k => ∀ x, Gentle (k x)
  | .os _ _ k => ∀ x, Gentle (k x)
  | .call _ _ _ _ _ => False
  | .handled _ k => ∀ x, Gentle (k x)
  | .genState _ k => ∀ x, Gentle (k x)
  | .newGen _ k => ∀ x, Gentle (k x)
  | .resume _ _ _ _ => False
  | .yield _ _ _ _ => True
  | .stack k => ∀ x, Gentle (k x)
  | .fork _ _ => True
  | .thread k => ∀ x, Gentle (k x)
  | .await _ _ _ _ _ => True

theorem Gentle.lift {α : Type} {M : Model} {Γ : Ctx} {E : Value → Pos → Shared → Prop} (h : Heap) : ∀ (t : Sem α) {Q : α → Pos → Shared → Prop} {p : Pos} {s : Shared}, Gentle t → Kept h s.heap → Sem.wp M Γ t Q E p s →
    Sem.wp M Γ t (fun a p' s' => Q a p' s' ∧ Kept h s'.heap) E p s := by
  intro t
  induction t with
  | pure a => intro Q p s g k w; rw [Sem.wp] at w ⊢; exact ⟨w, k⟩
  | raise e => intro Q p s g k w; rw [Sem.wp] at w ⊢; exact w
  | unsupported _ => intro Q p s g k w; rw [Sem.wp] at w; exact w.elim
  | finish _ => intro Q p s g k w; rw [Sem.wp] at w; exact w.elim
  | rule _ _ ih => intro Q p s g k w; rw [Sem.wp] at w ⊢; exact ih _ (g _) k w
  | «at» _ _ ih => intro Q p s g k w; rw [Sem.wp] at w ⊢; exact ih _ (g _) k w
  | load _ _ _ ih => intro Q p s g k w; rw [Sem.wp] at w ⊢; obtain ⟨o, ho, w⟩ := w; exact ⟨o, ho, ih _ (g _) k w⟩
  | update a q f _ ih => intro Q p s g k w; rw [Sem.wp] at w ⊢; exact ⟨w.1, ih _ (g.2 _) (k.trans (Kept.update g.1)) w.2⟩
  | alloc o _ ih => intro Q p s g k w; rw [Sem.wp] at w ⊢; exact ih _ (g _) (k.trans (Kept.push _ o)) w
  | register _ _ _ => intro Q p s g k w; rw [Sem.wp] at w; exact w.elim
  | loadIfAlive _ _ ih => intro Q p s g k w; rw [Sem.wp] at w ⊢; exact ih _ (g _) k w
  | point _ _ ih => intro Q p s g k w; rw [Sem.wp] at w ⊢; exact ih _ (g _) k w
  | fresh _ ih => intro Q p s g k w; rw [Sem.wp] at w ⊢; exact ih _ (g _) k w
  | ask _ ih => intro Q p s g k w; rw [Sem.wp] at w ⊢; exact ih _ (g _) k w
  | choose _ _ _ ih => intro Q p s g k w; rw [Sem.wp] at w ⊢; exact ⟨w.1, ih _ (g _) k w.2⟩
  | os _ _ _ ih => intro Q p s g k w; rw [Sem.wp] at w ⊢; exact ih _ (g _) k w
  | call _ _ _ _ _ _ => intro Q p s g k w; exact g.elim
  | handled _ _ ih => intro Q p s g k w; rw [Sem.wp] at w ⊢; exact ih _ (g _) k w
  | genState _ _ ih => intro Q p s g k w; rw [Sem.wp] at w ⊢; obtain ⟨o, ho, w⟩ := w; exact ⟨o, ho, ih _ (g _) k w⟩
  | newGen _ _ ih => intro Q p s g k w; rw [Sem.wp] at w ⊢; exact ih _ (g _) k w
  | resume _ _ _ _ _ => intro Q p s g k w; exact g.elim
  | yield _ _ _ _ _ => intro Q p s g k w; rw [Sem.wp] at w; exact w.elim
  | stack _ ih => intro Q p s g k w; rw [Sem.wp] at w ⊢; exact ih _ (g _) k w
  | fork _ _ _ => intro Q p s g k w; rw [Sem.wp] at w; exact w.elim
  | thread _ ih => intro Q p s g k w; rw [Sem.wp] at w ⊢; exact ih _ (g _) k w
  | await _ _ _ _ _ _ => intro Q p s g k w; rw [Sem.wp] at w; exact w.elim
theorem gentle_any {α : Type} {M : Model} {A : Around} {E : Value → Shared → Prop} {s : Shared} {t : Sem α} {Q : α → Shared → Prop} (g : Gentle t) (h : wpAny M A t Q E s) : wpAny M A t (fun a s' => Q a s' ∧ Kept s.heap s'.heap) E s :=
  fun Γ p hΓ => Gentle.lift s.heap t g (Kept.refl _) (h Γ p hΓ)

theorem gentle_bind {α β : Type} : ∀ {m : Sem α} {f : α → Sem β}, Gentle m → (∀ a, Gentle (f a)) → Gentle (m >>= f) := by
  intro m
  show ∀ {f : α → Sem β}, Gentle m → (∀ a, Gentle (f a)) → Gentle (m.bind f)
  induction m with
  | pure a => intro f _ h; exact h a
  | update _ _ _ _ ih => intro f g h; exact ⟨g.1, fun x => ih x (g.2 x) h⟩
  | raise _ => intro f g h; exact True.intro
  | unsupported _ => intro f g h; exact True.intro
  | finish _ => intro f g h; exact True.intro
  | register _ _ _ => intro f g h; exact True.intro
  | yield _ _ _ _ _ => intro f g h; exact True.intro
  | fork _ _ _ => intro f g h; exact True.intro
  | await _ _ _ _ _ _ => intro f g h; exact True.intro
  | call _ _ _ _ _ _ => intro f g h; exact g
  | resume _ _ _ _ _ => intro f g h; exact g
  | rule _ _ ih => intro f g h; exact fun x => ih x (g x) h
  | «at» _ _ ih => intro f g h; exact fun x => ih x (g x) h
  | load _ _ _ ih => intro f g h; exact fun x => ih x (g x) h
  | alloc _ _ ih => intro f g h; exact fun x => ih x (g x) h
  | loadIfAlive _ _ ih => intro f g h; exact fun x => ih x (g x) h
  | point _ _ ih => intro f g h; exact fun x => ih x (g x) h
  | fresh _ ih => intro f g h; exact fun x => ih x (g x) h
  | ask _ ih => intro f g h; exact fun x => ih x (g x) h
  | choose _ _ _ ih => intro f g h; exact fun x => ih x (g x) h
  | os _ _ _ ih => intro f g h; exact fun x => ih x (g x) h
  | handled _ _ ih => intro f g h; exact fun x => ih x (g x) h
  | genState _ _ ih => intro f g h; exact fun x => ih x (g x) h
  | newGen _ _ ih => intro f g h; exact fun x => ih x (g x) h
  | stack _ ih => intro f g h; exact fun x => ih x (g x) h
  | thread _ ih => intro f g h; exact fun x => ih x (g x) h
theorem gentle_pure {α : Type} (a : α) : Gentle (pure a : Sem α) := True.intro
theorem gentle_uns {α : Type} (w : String) : Gentle (unsupported w : Sem α) := True.intro
theorem gentle_ite {α : Type} {c : Prop} [Decidable c] {a b : Sem α} (ha : Gentle a) (hb : Gentle b) : Gentle (if c then a else b) := by split <;> assumption
theorem gentle_fieldsOf (v : Value) : Gentle (fieldsOf v) := by
  unfold fieldsOf
  cases v <;> first | exact True.intro | (refine gentle_bind (fun _ => True.intro) fun o => ?_; split <;> exact True.intro)
theorem gentle_field (v : Value) (i : Nat) : Gentle (field v i) := by
  unfold field
  refine gentle_bind (gentle_fieldsOf v) fun vs => ?_
  split <;> exact True.intro
theorem soft_mapFields (f : Array Value → Array Value) (o : Obj) : Soft o (Obj.mapFields f o) := by
  obtain ⟨a, b, c, d⟩ := o
  cases c <;> first | exact ⟨rfl, rfl, .inr ⟨_, _, rfl, rfl⟩⟩ | exact Soft.refl _
theorem gentle_setField (v : Value) (i : Nat) (x : Value) : Gentle (setField v i x) := by
  unfold setField
  cases v with
  | ref a =>
    dsimp only
    unfold updateField
    refine gentle_bind (fun _ => True.intro) fun o => ?_
    split
    · split
      · exact ⟨soft_mapFields _, fun _ => True.intro⟩
      · exact True.intro
    · exact True.intro
  | _ => exact True.intro
theorem gentle_stack : Gentle stack := fun _ => True.intro
theorem gentle_frameEnvs : Gentle frameEnvs := gentle_bind gentle_stack fun _ => True.intro
theorem gentle_behind (env : Env) (outer : List Env) : Gentle (behindIsImport env outer) := by
  unfold behindIsImport
  split
  · exact True.intro
  · split
    · exact True.intro
    · exact gentle_bind (gentle_field _ _) fun _ => True.intro
theorem gentle_keptBack (env : Env) (b : Bool) (l : List Env) : Gentle (keptBack env b l) := by
  cases l with
  | nil =>
    unfold keptBack underTheClaimsCaller
    refine gentle_ite True.intro (gentle_bind (gentle_bind gentle_stack fun _ => gentle_pure _) fun _ => gentle_pure _)
  | cons c r => unfold keptBack; exact True.intro
theorem gentle_ready : ∀ l : List Env, Gentle (readyFrames l)
  | [] => by unfold readyFrames; exact True.intro
  | env :: outer => by
    unfold readyFrames
    split
    · refine gentle_bind (fun _ => True.intro) fun o => ?_
      split
      · exact True.intro
      · refine gentle_bind (gentle_behind _ _) fun _ => gentle_bind (gentle_keptBack _ _ _) fun _ => gentle_bind ⟨fun _ => ⟨rfl, rfl, .inl rfl⟩, fun _ => True.intro⟩ fun _ => gentle_ready outer
    · exact True.intro
theorem gentle_frameObject (l : List Env) : Gentle (frameObject l) := by
  cases l with
  | nil => exact True.intro
  | cons e r => exact gentle_bind (gentle_ready _) fun _ => True.intro
theorem gentle_frameOf (env : Env) : Gentle (PySem.frameOf env) := by
  unfold PySem.frameOf
  refine gentle_bind gentle_frameEnvs fun l => gentle_bind (gentle_frameObject _) fun o => ?_
  split <;> exact True.intro
theorem gentle_entryPlace (f : Addr) (b : Bool) : Gentle (entryPlaceOf f b) := by
  unfold entryPlaceOf
  refine gentle_bind gentle_stack fun l => ?_
  split <;> exact True.intro
theorem gentle_newEntry (a b c d e : Value) (l : List Value) : Gentle (EntryCells.newEntry a b c d e l) := by
  unfold EntryCells.newEntry newFields newObj newObjAsIs
  dsimp only
  exact gentle_ite (gentle_bind True.intro fun _ => gentle_bind (fun _ => True.intro) fun _ => gentle_pure _) (gentle_bind (fun _ => True.intro) fun _ => gentle_pure _)
theorem gentle_setFlight (e : Value) (f : Option Addr) : Gentle (setFlight e f) := by
  unfold setFlight
  refine gentle_bind (gentle_field _ _) fun tb => ?_
  split
  · exact gentle_setField _ _ _
  · exact True.intro
theorem gentle_noteFrame (e : Value) (env : Env) : Gentle (noteFrame e env) := by
  have tail : ∀ f head, Gentle (do setField e 1 (← EntryCells.newEntry head (← PySem.frameOf env) .none (rawInt f) .none (← entryPlaceOf f (head != .none)))) := fun f head =>
    gentle_bind (gentle_frameOf _) fun _ => gentle_bind (gentle_entryPlace _ _) fun _ => gentle_bind (gentle_newEntry _ _ _ _ _ _) fun _ => gentle_setField _ _ _
  unfold noteFrame
  split
  · refine gentle_bind (gentle_field _ _) fun head => ?_
    split
    · refine gentle_bind (gentle_field _ _) fun h3 => ?_
      split
      · exact True.intro
      · exact gentle_bind (gentle_setField _ _ _) fun _ => tail _ _
    · exact tail _ _
  · exact True.intro
theorem gentle_leaving (env : Env) (e : Value) : Gentle (leaving env e) := gentle_bind (gentle_noteFrame _ _) fun _ => gentle_setFlight _ _
theorem Kept.inst {h h' : Heap} {x C : Addr} {m : Str → Option Value} (k : Kept h h') (I : h.Inst x C m) : h'.Inst x C m := by
  obtain ⟨o, ho, hc, hnc, hd⟩ := I
  obtain ⟨o', ho', hs⟩ := k x o ho
  refine ⟨o', ho', hs.1.trans hc, fun c q => ?_, ?_⟩
  · rcases hs.2.2 with z | ⟨v1, v2, z1, z2⟩
    · exact hnc c (z.symm.trans q)
    · rw [z2] at q; cases q
  · rcases hd with ⟨hd, hm⟩ | ⟨d, hd, hne, od, es, ep, hod, hdd, r⟩
    · exact .inl ⟨hs.2.1.trans hd, hm⟩
    · obtain ⟨od', hod', hs'⟩ := k d od hod
      refine .inr ⟨d, hs.2.1.trans hd, hne, od', es, ep, hod', ?_, r⟩
      rcases hs'.2.2 with z | ⟨v1, v2, z1, z2⟩
      · exact z.trans hdd
      · rw [hdd] at z1; cases z1
end BE
end Mine
end
section
open PySem PySem.W PyProof.Rows PySem.Calls
set_option maxRecDepth 100000
namespace Mine
namespace BE
section
variable {w : World} {A A₀ : Around} {E : Value → Shared → Prop} {s : Shared} {p : Program} {loose : List Str} {mean : ExcName → Option Value} {mg mb : Str → Option Value} {env : Env} {outer : List Env} {base h₀ : Heap} {L : Addr} {m : Str → Option Value}
def Is (h : Heap) (e t dx : Addr) (x : Str) (tk : Tok) (v : Value) : Prop :=
  (∃ o, h.get? e = some o ∧ o.cls = .ref 34 ∧ o.data = .fields #[.ref t, .none, .none, .none, .bool false, .none] ∧ o.dict = some dx) ∧ h.TupAt t [.str x tk] ∧ h.Inst e 34 (codeMap x tk v)
theorem be_call {news : List (Addr × Obj)} {x : Str} {tk : Tok} {Q : Value → Shared → Prop}
    (B : Below A₀ base outer h₀) (F : Fr h₀ L s.heap m) (X : (hd.heap_39 w.params).In h₀) (N : News h₀ L s.heap news) (T : Top p loose mean mg mb h₀)
    (hA : A.frames = some (env :: outer)) (hf : env.frame = some L) (hke : env.scope.kind = .function) (hroom : A.depth + 4 < recursionLimit)
    (h : ∀ e t v dx od h' tk', Fr h₀ L h' m → News h₀ L h' ((dx, od) :: news) → Is h' e t dx x tk v → h₀.get? e = none → h₀.get? t = none → (∀ p ∈ ((dx, od) :: news), p.1 ≠ e ∧ p.1 ≠ t) → L ≠ e → Q (.ref e) { s with heap := h', toks := tk' }) :
    wpAny (model PySem.Challenge.rw_pq0158_01.row.prog w) A (call (.ref 34) [.str x tk]) Q E s := by
  obtain ⟨hh, g, d, t, os⟩ := s
  have XX := X.keeps F.keep
  obtain ⟨nm, qn, bs, sn, sub, ab, col, dd, k0, k1, k2, k3, k5, hC⟩ := cls_of XX (clsOk34 w.params)
  have hN := Heap.Ns.of_isNs (isNs_of_in XX (nsOk33 w.params))
  obtain ⟨oI, hfI, hfc⟩ : ∃ oI, hh.get? 31 = some oI ∧ oI.cls = .type "function" := by
    have ht : ((hd.heap_39 w.params).lookup 31).map (·.cls) = some (.type "function") := by kernel_rfl
    cases z : (hd.heap_39 w.params).lookup 31 with
    | none => rw [z] at ht; cases ht
    | some of => rw [z] at ht; exact ⟨of, XX _ _ z, Option.some.inj ht⟩
  refine wpAny_call_exc_init PySem.F.excBase_Exception hC hN (ns_some XX hN (ns33_init _)) hfI hfc fun h' e hm => ?_
  obtain ⟨t0, he, ht0, htt⟩ := hm.there
  have hfresh : ∀ b, hh.get? b = none → h₀.get? b = none := fun b q => kts_none F.keep q
  have hLe : L ≠ e := fun q => by
    obtain ⟨o, _, _, ho, _⟩ := F.ns
    have := hm.new
    rw [← q, ho] at this; cases this
  have F1 : Fr h₀ L h' m := ⟨let ⟨o, es, ep, ho, r⟩ := F.ns; ⟨o, es, ep, hm.keeps _ _ ho, r⟩, fun b o q => hm.keeps _ _ (F.keep b o q), F.above⟩
  have hne : ∀ p ∈ news, p.1 ≠ e := fun p hp q => by
    have := hm.new
    rw [← q, (N p hp).1] at this; cases this
  have N1 : News h₀ L h' ((e, excO none t0) :: news) := fun p hp => by
    rcases List.mem_cons.mp hp with rfl | hp
    · exact ⟨he, Ne.symm hLe, hfresh _ hm.new⟩
    · exact ⟨hm.keeps _ _ (N p hp).1, (N p hp).2⟩
  refine be_init (s := ⟨h', g, d, t, os⟩) B F1 X N1 hne T hA hf hke (by rw [depth_under_make]; omega) fun h2 tk2 t2 v dx od F2 N2 a1 a2 a3 a4 a5 a6 a7 => ?_
  refine ⟨rfl, h e t2 v dx od h2 tk2 F2 N2 ⟨a1, a2, a3⟩ (hfresh _ hm.new) a4 (fun p hp => ⟨?_, a5 p hp⟩) hLe⟩
  rcases List.mem_cons.mp hp with rfl | hp
  · exact a7
  · exact hne p hp

theorem Raise_be {M : Model} {P : Params} {e : Expr} {pos : Pos} {Q : Flow → Shared → Prop} {g₀ : Heap} (_X : (hd.heap_39 P).In g₀) (hh : A.handled = none)
    (h : wpAny M A (eval e env) (fun v s₁ => ∃ a t dx x tk u, v = .ref a ∧ (hd.heap_39 P).In s₁.heap ∧ Is s₁.heap a t dx x tk u ∧ E (.ref a) s₁) E s) : wpAny M A (exec (.Raise (some e) none pos) env) Q E s := by
  show wpAny M A (do standAt pos; raiseStmt env (some (do let v ← eval e env; standAt pos; pure v)) none) Q E s
  refine wpAny_bind (wpAny_standAt ?_)
  have hcB : (Value.ref 34 :: excBm).contains (.type "BaseException") = true := by decide
  unfold raiseStmt
  refine wpAny_bind (wpAny_bind (wpAny_mono h (fun v s₁ h₁ => wpAny_bind (wpAny_standAt (wpAny_pure ?_))) fun _ _ x => x))
  obtain ⟨a, t, dx, x, tk, u, rfl, X, ⟨⟨⟨oc, od, odt, osl⟩, he, hc, hd, _⟩, _⟩, hE⟩ := h₁
  obtain ⟨nm, qn, bs, sn, sub, ab, col, dd, k0, k1, k2, k3, k5, hC⟩ := cls_of X (clsOk34 P)
  dsimp only at hc hd
  subst hc hd
  obtain ⟨hp, g, d, tk, os⟩ := s₁
  repeat (first | with_reducible refine wpAny_loadPart_at he ?_ | with_reducible refine wpAny_loadPart_at hC ?_ | (with_reducible refine wpAny_isSubtype_exc hC ?_; rw [hcB]) | wp_step)
  exact wpAny_raiseNew_none hh hE
end
end BE
end Mine
end
section
open PySem PySem.W PyProof.Rows PySem.Calls
set_option maxRecDepth 100000
namespace Mine
namespace BE
section
variable {prog : Program} {w : World} {A A₀ : Around} {s : Shared} {K : Frag} {p : Program} {loose : List Str} {mean : ExcName → Option Value} {mg mb : Str → Option Value} {env : Env} {base h₀ : Heap} {L : Addr} {m : Str → Option Value} {news : List (Addr × Obj)}
  {R : Result → Shared → Prop} {name qual : Str} {params : Arguments} {body : List Stmt} {scope : Scope} {dV kV doc pm cdv ct oc : Value} {an od : Option Addr} {osl : Array (Option Value)} {f : Addr} {args : Args} {binds : List (Str × Value)}
theorem mem_frames {env : Env} {outer : List Env} {L b : Addr} (hf : env.frame = some L) (hm : b ∈ (env :: outer).filterMap (·.frame)) : b = L ∨ b ∈ outer.filterMap (·.frame) := by
  obtain ⟨e, he, hfe⟩ := List.mem_filterMap.mp hm
  rcases List.mem_cons.mp he with rfl | he
  · exact .inl (Option.some.inj (hf.symm.trans hfe)).symm
  · exact .inr (List.mem_filterMap.mpr ⟨e, he, hfe⟩)

theorem enterS0 (B : Below A₀ base [] h₀) (F : Fr h₀ L s.heap m) (X₀ : K.In h₀) (N : News h₀ L s.heap news) (T : Top p loose mean mg mb h₀) (hA : A.frames = some [env]) (hf : env.frame = some L) (hke : env.scope.kind = .function)
    (ho : K.lookup f = some ⟨oc, od, .func (fnOf name qual params body scope dV kV doc pm an cdv ct), osl⟩) (hcd : codeIn K cdv qual = true) (hroom : A.depth < recursionLimit)
    (hbind : BindsTo s (fnOf name qual params body scope dV kV doc pm an cdv ct) args binds) (hloc : ∀ y ∈ binds, scope.names.lookup y.1 = some .local)
    (h : ∀ g L' h₁, Fr h₀ L g m → Fr g L' h₁ (fun y => binds.reverse.lookup y) → News g L' h₁ news → Below A base [env] g → K.In g → Top p loose mean mg mb g → KtsDicts ([env].filterMap (·.frame)) g →
      wpAny (model prog w) (A.deeper (envOf qual scope L' f cdv)) (execs body (envOf qual scope L' f cdv))
        (fun fl s' => LeaveS0 ([env].filterMap (·.frame)) h₀ L m g R (match fl with | .ret v => v | _ => .none) s')
        (fun e s' => wpAny (model prog w) (A.deeper (envOf qual scope L' f cdv)) (leaving (envOf qual scope L' f cdv) e) (fun _ s'' => R (.error e) s'') (fun e' s'' => R (.error e') s'') s')
        { s with heap := h₁, toks := s.toks + binds.length })
    (hco : scope.isCoroutine = false) (hgen : scope.isGenerator = false) (hk : scope.kind = .function)
    (hcell : ∀ x ∈ scope.names, x.2 ≠ .cell) : codeAny (model prog w) A (.call (.ref f) args) R s := by
  have X := X₀.keeps F.keep
  obtain ⟨FG, BG, st, _⟩ := groundX (R := R) B F N hA hf hke
  refine codeAny_call_def (fd := fnOf name qual params body scope dV kV doc pm an cdv ct) (body := body) (binds := binds) hroom (X _ _ ho) rfl (T.nolimit.keeps F.keep) (codeRec_of X hcd) rfl hbind hcell hloc (fun h₁ hns hk₁ => ?_) hco hgen hk
  obtain ⟨oL, es, ep, hLg, hLd, hLk, hLf⟩ := id FG.ns
  refine wpAny_mono (h _ s.heap.objs.size h₁ FG ⟨hns, fun b o e => hk₁ b o (of_hideAll _ e), Nat.le_of_eq (hideAll_size _ _)⟩
    (fun p hp => ⟨hk₁ _ _ (N p hp).1, Nat.ne_of_lt (Heap.lt_size (N p hp).1), hideAll_none _ (List.mem_map_of_mem hp)⟩) BG (X₀.keeps st) (T.keeps st) (fun b hb => by
      rcases mem_frames hf hb with rfl | z
      · exact ⟨oL, es, ep, hLg, hLd⟩
      · simp at z)) (fun fl s' hl => ?_) fun _ _ y => y
  obtain ⟨g', L', m', news', T', F', N', k⟩ := hl
  have nL₀ : h₀.get? L = none := kts_self F
  obtain ⟨sl, hs⟩ := T'.up hLg
  have hNs : s'.heap.Ns L m := ⟨_, es, ep, F'.keep _ _ hs, hLd, hLk, hLf⟩
  refine k ⟨hNs, fun b o e => F'.keep b o (T'.other b o (st b o e) (fun q => ?_)), F.above⟩ fun p hp => ⟨(N' p hp).1, fun q => ?_, ?_⟩
  · rcases mem_frames hf q with z | z
    · rw [z, nL₀] at e
      cases e
    · simp at z
  · have := (N' p hp).2.2; rw [q, hs] at this; cases this
  · cases q : h₀.get? p.1 with
    | none => rfl
    | some o =>
      exfalso
      have nm : p.1 ∉ [env].filterMap (·.frame) := fun z => by
        rcases mem_frames hf z with z | z
        · rw [z, nL₀] at q; cases q
        · simp at z
      have := T'.other _ _ (st _ _ q) nm
      rw [(N' p hp).2.2] at this
      cases this
end
end BE
end Mine
end
section
open PySem PySem.W PyProof.Rows PySem.Calls
set_option maxRecDepth 100000
namespace Mine
namespace BE
def Fly (base G : Heap) (l : List Env) (e t dx : Addr) (od : Obj) (x : Str) (tk : Tok) (v : Value) (news : List (Addr × Obj)) (h : Heap) : Prop :=
  RaisedS base G l e (.ref 34) t [.str x tk] ((dx, od) :: news) h ∧ h.Inst e 34 (codeMap x tk v) ∧ ∃ o, h.get? e = some o ∧ o.dict = some dx
theorem Kept.dict {h h' : Heap} {e dx : Addr} (k : Kept h h') (x : ∃ o, h.get? e = some o ∧ o.dict = some dx) : ∃ o, h'.get? e = some o ∧ o.dict = some dx :=
  let ⟨o, ho, hd⟩ := x; let ⟨o', ho', hs⟩ := k e o ho; ⟨o', ho', hs.2.1.trans hd⟩
section
variable {M : Model} {A : Around} {E : Value → Shared → Prop} {s' : Shared} {base g g₂ h : Heap} {outer : List Env} {L e t dx : Addr} {od : Obj} {m : Str → Option Value} {env : Env} {Q : Unit → Shared → Prop} {news : List (Addr × Obj)} {x : Str} {tk : Tok} {v : Value}
theorem leave_be (K : Below A base outer g) (F : Fr g L s'.heap m) (N : News g L s'.heap ((dx, od) :: news)) (I : Is s'.heap e t dx x tk v) (he : g.get? e = none) (ht : g.get? t = none) (hn : ∀ p ∈ ((dx, od) :: news), p.1 ≠ e ∧ p.1 ≠ t) (hLe : L ≠ e)
    (hf : env.frame = some L) (hk : env.scope.kind = .function)
    (hQ : ∀ h', Fly base g outer e t dx od x tk v news h' → g.UpToSlots h' → Q () { s' with heap := h' }) :
    wpAny M (A.deeper env) (leaving env (.ref e)) Q E s' := by
  obtain ⟨⟨oe, hoe, hoc, hod, hodd⟩, htup, hinst⟩ := I
  have hLt : L ≠ t := fun q => by
    obtain ⟨o, _, _, ho, hd, _⟩ := F.ns
    obtain ⟨o', n, ho', _, hd'⟩ := htup
    rw [← q, ho] at ho'
    cases ho'
    rw [hd] at hd'; cases hd'
  -- the heap without the exception and its args
  have nin : ∀ b, b ≠ e → b ≠ t → b ∉ [e, t] := fun b h1 h2 hm => by
    rcases List.mem_cons.mp hm with z | hm
    · exact h1 z
    · exact h2 (List.mem_singleton.mp hm)
  have F1 : Fr g L (hideAll s'.heap [e, t]) m := ⟨let ⟨o, es, ep, ho, r⟩ := F.ns; ⟨o, es, ep, hideAll_get _ ho (nin _ hLe hLt), r⟩,
    fun b o q => hideAll_get _ (F.keep b o q) (nin _ (fun z => by rw [z, he] at q; cases q) (fun z => by rw [z, ht] at q; cases q)), F.above⟩
  have N1 : News g L (hideAll s'.heap [e, t]) ((dx, od) :: news) := fun p hp => ⟨hideAll_get _ (N p hp).1 (nin _ (hn p hp).1 (hn p hp).2), (N p hp).2⟩
  have K' := pushX (env := env) K F1 hf hk
  have up : ∀ b o, (hideAll s'.heap [e, t]).get? b = some o → s'.heap.get? b = some o := fun b o q => of_hideAll _ q
  have hin : ∀ en ∈ (env :: outer), ∀ b, en.frame = some b → b ∈ (env :: outer).filterMap (·.frame) := fun en he b hb => List.mem_filterMap.mpr ⟨en, he, hb⟩
  have st : base.StaysIn (hideAll (hideAll s'.heap [e, t]) ((env :: outer).filterMap (·.frame))) := fun b o q => hideAll_get _ (K'.stays b o q) fun hm => by
    rw [(K'.frames.mem hm).1] at q; cases q
  have sg : ∀ b o, g.get? b = some o → b ∉ outer.filterMap (·.frame) → (hideAll (hideAll s'.heap [e, t]) ((env :: outer).filterMap (·.frame))).get? b = some o := fun b o q nm => hideAll_get _ (F1.keep b o q) fun hm => by
    rcases mem_frames hf hm with z | z
    · rw [z, kts_self F] at q
      cases q
    · exact nm z
  have hl : ∀ q ∈ ((dx, od) :: news), (hideAll (hideAll s'.heap [e, t]) ((env :: outer).filterMap (·.frame))).get? q.1 = some q.2 ∧ g.get? q.1 = none ∧ base.get? q.1 = none := fun q hq => by
    refine ⟨hideAll_get _ (N1 q hq).1 fun hm => ?_, (N q hq).2.2, fresh_of_stays K.stays (N q hq).2.2⟩
    obtain ⟨en, hen, hfe⟩ := List.mem_filterMap.mp hm
    rcases List.mem_cons.mp hen with rfl | hen
    · exact (N q hq).2.1 (Option.some.inj (hf.symm.trans hfe)).symm
    · obtain ⟨o, ho, _⟩ := (K.frames.mem (List.mem_filterMap.mpr ⟨en, hen, hfe⟩)).2
      rw [(N q hq).2.2] at ho; cases ho
  have none_ : ∀ b, b ∈ [e, t] → (hideAll (hideAll s'.heap [e, t]) ((env :: outer).filterMap (·.frame))).get? b = none := fun b hb => by
    cases q : (hideAll (hideAll s'.heap [e, t]) ((env :: outer).filterMap (·.frame))).get? b with
    | none => rfl
    | some o =>
      have := of_hideAll _ q
      rw [hideAll_none _ hb] at this; cases this
  refine wpAny_mono (gentle_any (gentle_leaving _ _) (wpAny_leaving_firstW (Q := fun _ s₂ => ∃ h', s₂ = { s' with heap := h' } ∧ Heap.LeftW (hideAll (hideAll s'.heap [e, t]) ((env :: outer).filterMap (·.frame))) (env :: outer) e oe.cls (.ref t) s'.heap h') (E := E)
    K'.stack ((funFrames_hide K'.frames hin).of_keeps fun b o hb _ => ⟨o, up b o hb, rfl⟩) hf hoe (fun b o q => up b o (of_hideAll _ q)) (none_ e (.head _)) hod rfl rfl fun h' hL => ⟨h', rfl, hL⟩)) (fun _ s₂ hs => ?_) fun _ _ y => y
  obtain ⟨⟨h', rfl, k1, ⟨_, _, k2⟩, k3, k4⟩, kk⟩ := hs
  rw [hoc] at k3
  exact hQ h' ⟨⟨⟨_, st, sg, hl, ⟨k1, none_ e (.head _), k2, k3⟩, none_ t (.tail _ (.head _))⟩, htup.of_slots k4⟩, Kept.inst kk hinst, Kept.dict kk ⟨oe, hoe, hodd⟩⟩ ((Heap.UpToSlots.of_keeps F.keep).trans k4)

theorem leave_on (K : Below A base outer g) (F : Fr g L g₂ m) (R : Fly base g₂ (env :: outer) e t dx od x tk v news s'.heap) (hsm : g₂.UpToSlots s'.heap) (hf : env.frame = some L)
    (hQ : ∀ h', Fly base g outer e t dx od x tk v news h' → g.UpToSlots h' → Q () { s' with heap := h' }) :
    wpAny M (A.deeper env) (leaving env (.ref e)) Q E s' := by
  obtain ⟨⟨⟨B, hB, hBG, hl, hfl, hnew⟩, htup⟩, hinst, hdict⟩ := R
  refine wpAny_mono (gentle_any (gentle_leaving _ _) (wpAny_leaves_onW (Q := fun _ s₂ => ∃ h', s₂ = { s' with heap := h' } ∧ Heap.FlyingW B outer e (.ref 34) (.ref t) h' ∧ s'.heap.UpToSlots h') (E := E)
    (Around.frames_deeper K.stack) hf hfl fun h' x1 x2 => ⟨h', rfl, x1, x2⟩)) (fun _ s₂ hs => ?_) fun _ _ y => y
  obtain ⟨⟨h', rfl, x1, x2⟩, kk⟩ := hs
  refine hQ h' ⟨⟨⟨B, hB, fun b o q nm => hBG b o (F.keep b o q) (fun hm => ?_), fun q hq => ⟨(hl q hq).1, kts_none F.keep (hl q hq).2.1, (hl q hq).2.2⟩, x1, hnew⟩, htup.of_slots x2⟩, Kept.inst kk hinst, Kept.dict kk hdict⟩ ((Heap.UpToSlots.of_keeps F.keep).trans (hsm.trans x2))
  rcases mem_frames hf hm with z | z
  · rw [z, kts_self F] at q
    cases q
  · exact nm z
end
end BE
end Mine
end
section
open PySem PySem.W PyProof.Rows PySem.Calls
set_option maxRecDepth 100000
namespace Mine
namespace BE
section
variable {w : World} {A₀ : Around} {E : Value → Shared → Prop} {s' : Shared} {base g g₀ G : Heap} {outer : List Env} {L a e t dx : Addr} {od : Obj} {m : Str → Option Value} {name : Str} {scope : Scope} {cd : Value}
  {n : Str} {b₀ : Stmt} {suite : List Stmt} {pos np : Pos} {rest : List ExceptHandler} {Q : Flow → Shared → Prop} {news : List (Addr × Obj)}
  {p : Program} {loose : List Str} {mean : ExcName → Option Value} {mg mb : Str → Option Value} {xs : Str} {tk : Tok} {v : Value}
theorem be_global (P : Params) : nsIn (hd.heap_39 P) mainGlobals "BasicError" = some (some (.ref 34)) := by kernel_rfl

theorem caught_be (R : Fly base G (envOf name scope L a cd :: outer) e t dx od xs tk v news s'.heap) (F : Fr g L G m) (K : Below A₀ base outer g) (hsm : G.UpToSlots s'.heap) (XB : (hd.heap_39 w.params).In base) (TB : Top p loose mean mg mb base)
    (D : KtsDicts (outer.filterMap (·.frame)) g) (T0 : KtsTurn (outer.filterMap (·.frame)) g₀ g)
    (k : ∀ h' g' tk', KtsTurn (outer.filterMap (·.frame)) g₀ g' → Fr g' L h' (fun y => if y = n then some (.ref e) else m y) → News g' L h' news → h'.Inst e 34 (codeMap xs tk v) → (∃ o vs, h'.get? e = some o ∧ o.data = .fields vs) → L ≠ e → Below A₀ base outer g' → (hd.heap_39 w.params).In g' → Top p loose mean mg mb g' → KtsDicts (outer.filterMap (·.frame)) g' →
      wpAny (model PySem.Challenge.rw_pq0158_01.row.prog w) ((A₀.deeper (envOf name scope L a cd)).mark (some (.ref e))) (execs (b₀ :: suite) (envOf name scope L a cd))
        (fun f s₄ => wpAny (model PySem.Challenge.rw_pq0158_01.row.prog w) (A₀.deeper (envOf name scope L a cd)) (do bindName (envOf name scope L a cd) n .none; unbindBehindTheSuite (envOf name scope L a cd) n pos) (fun _ s₅ => Q f s₅) E s₄)
        (AsSuiteRaised (model PySem.Challenge.rw_pq0158_01.row.prog w) ((A₀.deeper (envOf name scope L a cd)).mark (some (.ref e))) (envOf name scope L a cd) n pos (notedBy (model PySem.Challenge.rw_pq0158_01.row.prog w) ((A₀.deeper (envOf name scope L a cd)).mark (some (.ref e))) (envOf name scope L a cd) (cameBackBy (model PySem.Challenge.rw_pq0158_01.row.prog w) (A₀.deeper (envOf name scope L a cd)) (envOf name scope L a cd) E)))
        { s' with heap := h', toks := tk' })
    (hk : scope.kind = .function := by rfl) (hlo : (envOf name scope L a cd).kindOf n = some .local := by rfl) (hx : (envOf name scope L a cd).kindOf "BasicError" = some .globalImplicit := by rfl) :
    wpAny (model PySem.Challenge.rw_pq0158_01.row.prog w) (A₀.deeper (envOf name scope L a cd)) (noteFrame (.ref e) (envOf name scope L a cd))
      (fun _ s₂ => wpAny (model PySem.Challenge.rw_pq0158_01.row.prog w) (A₀.deeper (envOf name scope L a cd)) (setFlight (.ref e) none) (fun _ s₃ =>
        wpAny (model PySem.Challenge.rw_pq0158_01.row.prog w) (A₀.deeper (envOf name scope L a cd)) (handleBy (.ref e) (envOf name scope L a cd) (.ExceptHandler (some (.Name "BasicError" np)) (some n) (b₀ :: suite) pos :: rest)) Q E s₃) E s₂) E s' := by
  obtain ⟨⟨⟨B, hB, hBG, hl, hfl, hnew⟩, htup⟩, hinst, hdict⟩ := R
  have hL : B.get? L = none := by
    obtain ⟨_, ⟨L', _, hf, hn', _⟩, _⟩ := hfl.2.2.1
    obtain rfl : L = L' := Option.some.inj hf
    exact hn'
  -- the frame is noted
  refine wpAny_mono (gentle_any (gentle_noteFrame _ _) (wpAny_looks_onW (Q := fun _ s₂ => ∃ h₄, s₂ = { s' with heap := h₄ } ∧ Heap.HeldW B (envOf name scope L a cd :: outer) e (.ref 34) (.ref t) L h₄ ∧ s'.heap.UpToSlots h₄) (E := E)
    (Around.frames_deeper K.stack) rfl hfl fun h₄ x1 x2 => ⟨h₄, rfl, x1, x2⟩)) (fun _ s₂ hs => ?_) fun _ _ y => y
  obtain ⟨⟨h₄, rfl, hheld₄, hsm₄⟩, kk₄⟩ := hs
  have hinst₄ := Kept.inst kk₄ hinst
  have hdict₄ := Kept.dict kk₄ hdict
  -- it lands
  refine wpAny_mono (gentle_any (gentle_setFlight _ _) (wpAny_landsW (s := { s' with heap := h₄ }) (Q := fun _ s₂ => ∃ h₅, s₂ = { s' with heap := h₅ } ∧ Heap.FlyingW B (envOf name scope L a cd :: outer) e (.ref 34) (.ref t) h₅ ∧ h₄.UpToSlots h₅) (E := E) hheld₄
    fun h₅ x1 x2 => ⟨h₅, rfl, x1, x2⟩)) (fun _ s₂ hs => ?_) fun _ _ y => y
  obtain ⟨⟨h₅, rfl, hheld, hsm₅'⟩, kk₅⟩ := hs
  have hinst₅ := Kept.inst kk₅ hinst₄
  have hdict₅ := Kept.dict kk₅ hdict₄
  have hsm₅ := hsm₄.trans hsm₅'
  obtain ⟨g₅, T₅, F₅, K₅⟩ := kts_ground K F hBG hheld.1 (hsm.trans hsm₅)
  have X₅ : (hd.heap_39 w.params).In g₅ := XB.keeps K₅.stays
  have P₅ : TopRead p loose mg mb g₅ := topRead_of (TB.keeps K₅.stays)
  obtain ⟨ob, hob, hobc⟩ := hheld.there
  obtain ⟨nm, qn, bs, sn, sub, ab, col, dd, k0, k1, k2, k3, k5, hC⟩ := cls_of X₅ (clsOk34 w.params)
  refine wpAny_handleBy_cons (codeAny_handlers_test (name_K F₅ X₅ P₅ (be_global _) ?_ hk hx (by decide))) (by intro q; cases q)
  refine wpAny_excMatches_sub_self (F₅.keep _ _ hC) hob hobc (by decide) (codeAny_handlers_suite_as ?_)
  refine wpAny_mono (gentle_any (gentle_setFlight _ _) (lands_againW (s := { s' with heap := h₅ }) (Q := fun _ s₂ => ∃ h₆, s₂ = { s' with heap := h₆ } ∧ Heap.FlyingW B (envOf name scope L a cd :: outer) e (.ref 34) (.ref t) h₆ ∧ h₅.UpToSlots h₆) hheld
    fun h₆ x1 x2 => ⟨h₆, rfl, x1, x2⟩)) (fun _ s₂ hs => ?_) fun _ _ y => y
  obtain ⟨⟨h₆, rfl, hfl₆, hsm₆⟩, kk₆⟩ := hs
  have hinst₆ := Kept.inst kk₆ hinst₅
  have hdict₆ := Kept.dict kk₆ hdict₅
  obtain ⟨g₆, T₆, F₆, K₆⟩ := kts_ground K F hBG hfl₆.1 ((hsm.trans hsm₅).trans hsm₆)
  obtain ⟨oe, ws, hoe, hoec, hoed, hoe0⟩ := hfl₆.first
  have hLe : L ≠ e := fun q => by
    obtain ⟨o, _, _, ho, hd, _⟩ := F₆.ns
    rw [q, hoe] at ho; cases ho; rw [hoed] at hd; cases hd
  have Nl : News g₆ L h₆ ((dx, od) :: news) := fun q hq => ⟨hfl₆.1 _ _ (hl q hq).1, (fun z => by have := (hl q hq).1; rw [z, hL] at this; cases this), T₆.none_ _ (kts_none F.keep (hl q hq).2.1)⟩
  refine wpAny_storeName_local hlo F₆.ns (fun h₇ hn₇ hs₇ => ?_) (by show (scope.kind == .class || (scope.kind == .module && L != mainGlobals)) = false; rw [hk]; rfl)
  have hinst₇ : h₇.Inst e 34 (codeMap xs tk v) := by
    obtain ⟨o, ho, hc, hnc, hd⟩ := hinst₆
    refine ⟨o, (hs₇.2 e (Ne.symm hLe)).trans ho, hc, hnc, hd.imp id fun ⟨d, h1, h2, h3⟩ => ⟨d, h1, h2, ?_⟩⟩
    have hdL : d ≠ L := fun q => by
      obtain ⟨o', ho', hd'⟩ := hdict₆
      rw [ho] at ho'; cases ho'
      rw [h1] at hd'; cases hd'
      exact (Nl _ (.head _)).2.1 q
    exact h3.at fun o z => (hs₇.2 d hdL).trans z
  exact k h₇ g₆ _ (T0.trans T₆) (F₆.set hn₇ hs₇) (News.set (fun q hq => Nl q (.tail _ hq)) hs₇) hinst₇ ⟨oe, ws, (hs₇.2 e (Ne.symm hLe)).trans hoe, hoed⟩ hLe K₆ (XB.keeps K₆.stays) (TB.keeps K₆.stays) (D.turn T₆)
end
end BE
end Mine
end
section
open PySem PySem.W PyProof.Rows PySem.Calls
set_option maxRecDepth 100000
namespace Mine
namespace BE
open Builtin Builtin.ObjectAttr
section
variable {prog : Program} {w : World} {A : Around} {E : Value → Shared → Prop} {h : Heap} {g : Array GenState} {d : Drawn} {t : Nat} {os : OsState} {e : Addr}
  {nm q : Str} {C N : Addr} {bs : List Value} {sn : List Str} {sub : List Value} {ab : Bool} {col : Option Bool} {dd : Option Addr} {k0 k1 k2 k3 k5 : Option Value} {newId : String} {mN mA : Str → Option Value} {name : Str} {v : Value}
theorem ga_entry {tk : Tok} {Q : Fin → Shared → Prop} (hC : h.get? C = some (excClassObj nm q C N bs excBm true sn sub ab col dd k0 k1 k2 k3 k5 newId)) (hN : h.Ns N mN) (hna : mN name = none)
    (hB : typeLookup (.type "Exception") name = pure none) (I : h.Inst e C mA) (hv : mA name = some v) (hq : Q (.done (.ret v)) ⟨h, g, d, t, os⟩) :
    wpAny (model prog w) A (Builtin.«object.__getattribute__» ⟨[.ref e, .str name tk], []⟩) Q E ⟨h, g, d, t, os⟩ := by
  have hmro := PySem.F.attrBase_Exception.mro
  obtain ⟨o, hx, hc, hnc, hd⟩ := I
  rcases hd with ⟨_, hmA⟩ | ⟨dx, hdx, hne, hns⟩
  · rw [hmA name] at hv; cases hv
  unfold Builtin.«object.__getattribute__»
  repeat (first | (with_reducible refine wpAny_loadPart_at hx ?_; rw [hc]) | (with_reducible refine wpAny_typeLookup_exc hC hN hmro hB ?_; rw [hna]) | wp_step)
  split
  · rename_i c hcd
    exact absurd hcd (hnc c)
  unfold instanceDict
  repeat (first | (with_reducible refine wpAny_loadPart_at hx ?_; rw [hc]) | with_reducible refine wpAny_loadPart_at hC ?_ | wp_step)
  rw [hdx]
  repeat (first | (with_reducible refine wpAny_nsGet hns.ns ?_; rw [hv]) | wp_step)
  exact hq
theorem ga_check {M : Model} {o : Obj} {nameV : Value} {Q : Unit → Shared → Prop} (hC : h.get? C = some (excClassObj nm q C N bs excBm true sn sub ab col dd k0 k1 k2 k3 k5 newId))
    (hx : h.get? e = some o) (hc : o.cls = .ref C) (hq : Q () ⟨h, g, d, t, os⟩) : wpAny M A (checkBuiltinCall "BaseException.__getattribute__" ⟨[.ref e, nameV], []⟩) Q E ⟨h, g, d, t, os⟩ := by
  have hk : builtinKind "BaseException.__getattribute__" = some .slot := by decide +kernel
  have hsplit : splitId "BaseException.__getattribute__" = some ("BaseException", "__getattribute__") := by decide +kernel
  have hcB : (Value.ref C :: excBm).contains (.type "BaseException") = true := by
    rw [List.contains_cons, show excBm.contains (.type "BaseException") = true from by decide, Bool.or_true]
  have ha := PySem.F.args_bexc_ga (.ref e) nameV
  simp only [checkBuiltinCall, hk, hsplit]
  refine wpAny_bind ?_
  · unfold isInstance
    repeat (first | (with_reducible refine wpAny_loadPart_at hx ?_; rw [hc]) | (with_reducible refine wpAny_isSubtype_exc hC ?_; rw [hcB]) | wp_step)
    exact hq
theorem ga_attr {expr : Bool} {Q : Value → Shared → Prop} (hC : h.get? C = some (excClassObj nm q C N bs excBm true sn sub ab col dd k0 k1 k2 k3 k5 newId)) (hN : h.Ns N mN) (hna : mN name = none)
    (hg1 : mN "__getattribute__" = none) (hg2 : mN "__getattr__" = none)
    (hB : typeLookup (.type "Exception") name = pure none) (I : h.Inst e C mA) (hv : mA name = some v) (hh : handedOut v = pure v) (hq : Q v ⟨h, g, d, t + 1, os⟩) :
    wpAny (model prog w) A (getAttr (.ref e) name expr) Q E ⟨h, g, d, t, os⟩ := by
  have FB := PySem.F.attrBase_Exception
  obtain ⟨o, hx, hc, hnc, hd⟩ := id I
  have f3 := FB.ga.bind (.ref e)
  have hx0 : (expr && onTheHeap (Value.builtin "BaseException.__getattribute__")) = false := by cases expr <;> rfl
  have hx2 : (Value.builtin "BaseException.__getattribute__" == Value.builtin "object.__getattribute__") = false := by decide +kernel
  have hx1 : (onTheHeap (Value.ref C) && Value.builtin "BaseException.__getattribute__" == Value.builtin "object.__getattribute__") = false := by rw [hx2]; rfl
  unfold getAttr getAttrBy
  repeat (any_goals (first | assumption | (with_reducible refine wpAny_loadPart_at hx ?_; rw [hc]) | (with_reducible refine wpAny_typeLookup_exc hC hN FB.mro FB.ga.lookup ?_; rw [hg1]) | (with_reducible refine wpAny_typeLookup_exc hC hN FB.mro FB.noGetattr ?_; rw [hg2]) | wp_step))
  refine codeAny_call_builtin FB.ga.plain PySem.F.entry_bexc_ga (ga_check hC hx hc (ga_entry hC hN hna hB I hv ?_))
  repeat (any_goals (first | assumption | wp_step))
  all_goals (show wpAny _ _ (handedOut v) _ _ _; rw [hh]; exact wpAny_pure hq)
end
theorem ns33_ga (P : Params) : nsIn (hd.heap_39 P) 33 "__getattribute__" = some none := by kernel_rfl
theorem ns33_gx (P : Params) : nsIn (hd.heap_39 P) 33 "__getattr__" = some none := by kernel_rfl
theorem code_attr {w : World} {A : Around} {E : Value → Shared → Prop} {s : Shared} {e : Addr} {x : Str} {tk : Tok} {v : Value} {expr : Bool} {Q : Value → Shared → Prop} (X : (hd.heap_39 w.params).In s.heap) (I : s.heap.Inst e 34 (codeMap x tk v))
    (hq : Q (.str x tk) { s with toks := s.toks + 1 }) : wpAny (model PySem.Challenge.rw_pq0158_01.row.prog w) A (getAttr (.ref e) "code" expr) Q E s := by
  obtain ⟨hh, g, d, t, os⟩ := s
  obtain ⟨nm, qn, bs, sn, sub, ab, col, dd, k0, k1, k2, k3, k5, hC⟩ := cls_of X (clsOk34 w.params)
  have hN := Heap.Ns.of_isNs (isNs_of_in X (nsOk33 w.params))
  exact ga_attr hC hN (ns_some X hN (ns33_code _)) (ns_some X hN (ns33_ga _)) (ns_some X hN (ns33_gx _)) lk_code I rfl rfl hq
end BE
end Mine
end
section
open PySem PySem.W PyProof.Rows PySem.Calls
set_option maxRecDepth 100000
namespace Mine
abbrev tup2 (x : Int) (t : Tok) (y : Int) (u : Tok) (c : Nat) : Obj := { cls := .type "tuple", data := .seq #[.int x t, .int y u] c }
abbrev divBody (p1 p2 p3 p4 p5 : Pos) : Expr := .Call (.Name "d_div" p1) [.Name "a" p2, .Name "b" p3, .Name "digits" p4] [] p5
abbrev divScope : Scope := { kind := .function, names := [("a", .free), ("b", .free), ("digits", .free), ("d_div", .globalImplicit)], isGenerator := false, isCoroutine := false, more := [] }
abbrev rootBody (p1 p2 p3 p5 : Pos) : Expr := .Call (.Name "d_root" p1) [.Name "a" p2, .Name "digits" p3] [] p5
abbrev rootScope : Scope := { kind := .function, names := [("a", .free), ("digits", .free), ("d_root", .globalImplicit)], isGenerator := false, isCoroutine := false, more := [] }
abbrev noArgs : Arguments := { posonlyargs := [], args := [], vararg := none, kwonlyargs := [], kw_defaults := [], kwarg := none, defaults := [] }
namespace BE
set_option maxHeartbeats 1000000 in
theorem refused_dz {w : World} {A A₀ : Around} {E : Value → Shared → Prop} {s : Shared} {p : Program} {loose : List Str} {mean : ExcName → Option Value} {mg mb : Str → Option Value} {env : Env} {h₀ : Heap} {L : Addr} {m : Str → Option Value} {news : List (Addr × Obj)} {Q : Value → Shared → Prop}
    {p1 p2 p3 p4 p5 : Pos} {qual : Str} {pm ctv : Value} {c' f' ca cb cd a b : Addr} {oa ob od oc' : Obj} {vs' : Array Value} {tc : Tok} {a0 a1 b1 dg : Int} {t1 t2 t3 t4 t5 tk : Tok} {n1 n2 : Nat}
    (B : Below A₀ h₀ [] h₀) (F : Fr h₀ L s.heap m) (X : (hd.heap_39 w.params).In h₀) (N : News h₀ L s.heap news) (T : Top p loose mean mg mb h₀)
    (hA : A.frames = some [env]) (hh : A.handled = none) (hf : env.frame = some L) (hke : env.scope.kind = .function) (hroom : A.depth + 10 < recursionLimit)
    (hlam : (f', kla_obj "<lambda>" qual noArgs (divBody p1 p2 p3 p4 p5) divScope [("digits", cd), ("b", cb), ("a", ca)] pm c' ctv) ∈ news) (hcm : (c', oc') ∈ news) (hcd1 : oc'.data = .fields vs') (hcd2 : vs'[1]? = some (.str qual tc))
    (hca : (ca, oa) ∈ news) (hoa : oa.data = .cell (some (.ref a))) (hcb : (cb, ob) ∈ news) (hob : ob.data = .cell (some (.ref b))) (hcd : (cd, od) ∈ news) (hod : od.data = .cell (some (.int dg t5)))
    (ha : (a, tup2 a0 t1 a1 t2 n1) ∈ news) (hb : (b, tup2 0 t3 b1 t4 n2) ∈ news)
    (hq : ∀ h' tk', Fr h₀ L h' m → News h₀ L h' news → Q (.bool true) { s with heap := h', toks := tk' }) :
    wpAny (model PySem.Challenge.rw_pq0158_01.row.prog w) A (call (.ref 114) [.ref f', .str "DZ" tk]) Q E s := by
  w_top off
  k_with_none
  (k_with "eval Name" => (k_dflt (refine' nameX_F ?zyN ?zyc ?zym ?zyd ?_ ?zya ?zyb; (case zya => rfl); (case zyb => rfl); (case zyN => assumption); (case zyc => rfl); (case zym => assumption); (case zyd => assumption))))
  (k_with "exec Raise some none" => (k_dflt (refine' Raise_be ?zyX ?zyhh ?_; (case zyX => assumption); (case zyhh => assumption))))
  have hK : (PySem.Challenge.rw_pq0158_01 = PySem.Challenge.rw_pq0158_01 ∧ Mine.hd.heap_39 = Mine.hd.heap_39) := by
    k_fill
    exact ⟨rfl, rfl⟩
  clear hK
  refine wpAny_call ?_
  k_dflt (refine' enterS0 B F X N T hA hf hke ?k6 ?k7 ?k8 ?k9 ?kB ?_ ?c2 ?c3 ?c4 ?c5; (case k6 => k_is); (case k7 => k_is); (case k8 => omega); (case k9 => exact BindsTo.of_eq rfl); (case kB => exact locs rfl); (case c2 => exact rfl); (case c3 => exact rfl); (case c4 => exact rfl); (case c5 => decide); intro g L' h' FG' F' N' B' X' T' D')
  k_steps
  k_dflt (refine callWith_F0 (FnAt.of N' hlam) ?_)
  k_dflt (refine wpAny_call ?_; refine' kla_code ?k1 ?k2 ?k3 ?k4 ?k5 ?kA ?kF ?kK ?k6 ?k7 ?k8 ?k9 ?kB ?_ ?c2 ?c3 ?c4 ?c5; (case kA => exact congrArg (Option.map _) hA); (case kF => exact rfl); (case kK => exact rfl); (case k1 => exact B'); (case k2 => exact F'); (case k3 => exact X'); (case k4 => exact N'); (case k5 => exact T'); (case k6 => exact hlam); (case k7 => exact codeRec_news N' hcm hcd1 hcd2); (case k8 => (show A.depth + 1 < recursionLimit; omega)); (case k9 => exact rfl); (case c5 => decide); (case kB => exact locs rfl); (case c2 => exact rfl); (case c3 => exact rfl); (case c4 => exact rfl); intro g2 L2 h2 FG2 F2 N2 B2 X2 T2)
  k_steps
  k_dflt (refine wpAny_call ?_; refine' code_def ?k1 ?k2 ?k3 ?k4 ?k5 ?kA ?kF ?kK ?k6 ?k7 ?k8 ?k9 ?kB ?_ ?c2 ?c3 ?c4 ?c5; (case kA => exact congrArg (Option.map _) (congrArg (Option.map _) hA)); (case kF => exact rfl); (case kK => exact rfl); (case k1 => exact B2); (case k2 => exact F2); (case k3 => exact X2); (case k4 => exact N2); (case k5 => exact T2); (case k6 => k_is); (case k7 => k_is); (case k8 => (show A.depth + 1 + 1 < recursionLimit; omega)); (case k9 => exact BindsTo.of_eq rfl); (case c5 => decide); (case kB => exact locs rfl); (case c2 => exact rfl); (case c3 => exact rfl); (case c4 => exact rfl); intro g3 L3 h3 FG3 F3 N3 B3 X3 T3)
  k_steps
  k_dflt (refine be_call B3 F3 X3 N3 T3 (congrArg (Option.map _) (congrArg (Option.map _) (congrArg (Option.map _) hA))) rfl rfl (show A.depth + 1 + 1 + 1 + 4 < recursionLimit by omega) (fun e t v dx od h4 tk4 F4 N4 I4 e1 e2 n4 l4 => ?_))
  refine ⟨e, t, dx, _, _, v, rfl, X3.keeps F4.keep, I4, ?_⟩
  k_dflt (refine leave_be B3 F4 N4 I4 e1 e2 n4 l4 rfl rfl (fun h5 R5 U5 => ?_))
  k_dflt (refine leave_on B2 FG3 R5 U5 rfl (fun h6 R6 U6 => ?_))
  k_dflt (refine caught_be R6 FG2 B' U6 X T D' KtsTurn.refl (fun h7 g7 tk7 T7 F7 N7 I7 o7 l7 B7 X7 P7 D7 => ?_))
  clear R6 R5 U6 U5 I4 N4 F4 e1 e2 n4 B3 F3 N3 X3 T3 FG3 B2 F2 N2 X2 T2 FG2 B' F' N' X' T' D'
  k_steps
  k_dflt (refine code_attr (X7.keeps F7.keep) I7 ?_)
  k_steps
  (rename Fr _ _ _ _ => kF); (rename News _ _ _ _ => kN)
  rw [beq_self_eq_true]
  exact hq _ _ kF kN
set_option maxHeartbeats 1000000 in
theorem refused_fc {w : World} {A A₀ : Around} {E : Value → Shared → Prop} {s : Shared} {p : Program} {loose : List Str} {mean : ExcName → Option Value} {mg mb : Str → Option Value} {env : Env} {h₀ : Heap} {L : Addr} {m : Str → Option Value} {news : List (Addr × Obj)} {Q : Value → Shared → Prop}
    {p1 p2 p3 p5 : Pos} {qual : Str} {pm ctv : Value} {c' f' ca cd a : Addr} {oa od oc' : Obj} {vs' : Array Value} {tc : Tok} {a0 a1 dg : Int} {t1 t2 t5 tk : Tok} {n1 : Nat}
    (B : Below A₀ h₀ [] h₀) (F : Fr h₀ L s.heap m) (X : (hd.heap_39 w.params).In h₀) (N : News h₀ L s.heap news) (T : Top p loose mean mg mb h₀)
    (hA : A.frames = some [env]) (hh : A.handled = none) (hf : env.frame = some L) (hke : env.scope.kind = .function) (hroom : A.depth + 10 < recursionLimit)
    (hlam : (f', kla_obj "<lambda>" qual noArgs (rootBody p1 p2 p3 p5) rootScope [("digits", cd), ("a", ca)] pm c' ctv) ∈ news) (hcm : (c', oc') ∈ news) (hcd1 : oc'.data = .fields vs') (hcd2 : vs'[1]? = some (.str qual tc))
    (hca : (ca, oa) ∈ news) (hoa : oa.data = .cell (some (.ref a))) (hcd : (cd, od) ∈ news) (hod : od.data = .cell (some (.int dg t5)))
    (ha : (a, tup2 a0 t1 a1 t2 n1) ∈ news) (hneg : a0 < 0)
    (hq : ∀ h' tk', Fr h₀ L h' m → News h₀ L h' news → Q (.bool true) { s with heap := h', toks := tk' }) :
    wpAny (model PySem.Challenge.rw_pq0158_01.row.prog w) A (call (.ref 114) [.ref f', .str "FC" tk]) Q E s := by
  w_top off
  k_with_none
  (k_with "eval Name" => (k_dflt (refine' nameX_F ?zyN ?zyc ?zym ?zyd ?_ ?zya ?zyb; (case zya => rfl); (case zyb => rfl); (case zyN => assumption); (case zyc => rfl); (case zym => assumption); (case zyd => assumption))))
  (k_with "exec Raise some none" => (k_dflt (refine' Raise_be ?zyX ?zyhh ?_; (case zyX => assumption); (case zyhh => assumption))))
  have hK : (PySem.Challenge.rw_pq0158_01 = PySem.Challenge.rw_pq0158_01 ∧ Mine.hd.heap_39 = Mine.hd.heap_39) := by
    k_fill
    exact ⟨rfl, rfl⟩
  clear hK
  refine wpAny_call ?_
  k_dflt (refine' enterS0 B F X N T hA hf hke ?k6 ?k7 ?k8 ?k9 ?kB ?_ ?c2 ?c3 ?c4 ?c5; (case k6 => k_is); (case k7 => k_is); (case k8 => omega); (case k9 => exact BindsTo.of_eq rfl); (case kB => exact locs rfl); (case c2 => exact rfl); (case c3 => exact rfl); (case c4 => exact rfl); (case c5 => decide); intro g L' h' FG' F' N' B' X' T' D')
  k_steps
  k_dflt (refine callWith_F0 (FnAt.of N' hlam) ?_)
  k_dflt (refine wpAny_call ?_; refine' kla_code ?k1 ?k2 ?k3 ?k4 ?k5 ?kA ?kF ?kK ?k6 ?k7 ?k8 ?k9 ?kB ?_ ?c2 ?c3 ?c4 ?c5; (case kA => exact congrArg (Option.map _) hA); (case kF => exact rfl); (case kK => exact rfl); (case k1 => exact B'); (case k2 => exact F'); (case k3 => exact X'); (case k4 => exact N'); (case k5 => exact T'); (case k6 => exact hlam); (case k7 => exact codeRec_news N' hcm hcd1 hcd2); (case k8 => (show A.depth + 1 < recursionLimit; omega)); (case k9 => exact rfl); (case c5 => decide); (case kB => exact locs rfl); (case c2 => exact rfl); (case c3 => exact rfl); (case c4 => exact rfl); intro g2 L2 h2 FG2 F2 N2 B2 X2 T2)
  k_steps
  k_dflt (refine wpAny_call ?_; refine' code_def ?k1 ?k2 ?k3 ?k4 ?k5 ?kA ?kF ?kK ?k6 ?k7 ?k8 ?k9 ?kB ?_ ?c2 ?c3 ?c4 ?c5; (case kA => exact congrArg (Option.map _) (congrArg (Option.map _) hA)); (case kF => exact rfl); (case kK => exact rfl); (case k1 => exact B2); (case k2 => exact F2); (case k3 => exact X2); (case k4 => exact N2); (case k5 => exact T2); (case k6 => k_is); (case k7 => k_is); (case k8 => (show A.depth + 1 + 1 < recursionLimit; omega)); (case k9 => exact BindsTo.of_eq rfl); (case c5 => decide); (case kB => exact locs rfl); (case c2 => exact rfl); (case c3 => exact rfl); (case c4 => exact rfl); intro g3 L3 h3 FG3 F3 N3 B3 X3 T3)
  k_steps
  k_dflt (refine be_call B3 F3 X3 N3 T3 (congrArg (Option.map _) (congrArg (Option.map _) (congrArg (Option.map _) hA))) rfl rfl (show A.depth + 1 + 1 + 1 + 4 < recursionLimit by omega) (fun e t v dx od h4 tk4 F4 N4 I4 e1 e2 n4 l4 => ?_))
  refine ⟨e, t, dx, _, _, v, rfl, X3.keeps F4.keep, I4, ?_⟩
  k_dflt (refine leave_be B3 F4 N4 I4 e1 e2 n4 l4 rfl rfl (fun h5 R5 U5 => ?_))
  k_dflt (refine leave_on B2 FG3 R5 U5 rfl (fun h6 R6 U6 => ?_))
  k_dflt (refine caught_be R6 FG2 B' U6 X T D' KtsTurn.refl (fun h7 g7 tk7 T7 F7 N7 I7 o7 l7 B7 X7 P7 D7 => ?_))
  clear R6 R5 U6 U5 I4 N4 F4 e1 e2 n4 B3 F3 N3 X3 T3 FG3 B2 F2 N2 X2 T2 FG2 B' F' N' X' T' D'
  k_steps
  k_dflt (refine code_attr (X7.keeps F7.keep) I7 ?_)
  k_steps
  (rename Fr _ _ _ _ => kF); (rename News _ _ _ _ => kN)
  rw [beq_self_eq_true]
  exact hq _ _ kF kN
end BE
end Mine
end
section
open PySem PySem.W PyProof.Rows PySem.Calls
set_option maxRecDepth 100000
namespace Mine
def figN (n : Nat) : Nat := if n < 10 then 1 else figN (n / 10) + 1
theorem figN_pos (n : Nat) : 1 ≤ figN n := by unfold figN; split <;> omega
theorem figN_lt (n : Nat) : n < 10 ^ figN n := by
  induction n using Nat.strongRecOn with
  | _ n ih =>
    unfold figN
    split
    · omega
    · have := ih (n / 10) (by omega)
      rw [Nat.pow_succ]; omega
theorem figN_le (n : Nat) : 1 ≤ n → 10 ^ (figN n - 1) ≤ n := by
  induction n using Nat.strongRecOn with
  | _ n ih =>
    intro h
    unfold figN
    split
    · simpa using h
    · have h2 := ih (n / 10) (by omega) (by omega)
      have h3 := figN_pos (n / 10)
      have e : figN (n / 10) + 1 - 1 = (figN (n / 10) - 1) + 1 := by omega
      rw [e, Nat.pow_succ]; omega
theorem figN_of (n k : Nat) (h1 : 1 ≤ k) (h2 : n < 10 ^ k) (h3 : k = 1 ∨ 10 ^ (k - 1) ≤ n) : figN n = k := by
  have a := figN_lt n
  have p := figN_pos n
  rcases Nat.lt_trichotomy (figN n) k with h | h | h
  · exfalso
    rcases h3 with h3 | h3
    · omega
    · have : 10 ^ figN n ≤ 10 ^ (k - 1) := Nat.pow_le_pow_right (by omega) (by omega)
      omega
  · exact h
  · exfalso
    have hn : 1 ≤ n := by
      rcases Nat.eq_zero_or_pos n with z | z
      · subst z
        have : figN 0 = 1 := by unfold figN; simp
        omega
      · exact z
    have b := figN_le n hn
    have : 10 ^ k ≤ 10 ^ (figN n - 1) := Nat.pow_le_pow_right (by omega) (by omega)
    omega
theorem accUp10 {k : Int} (h : 1 ≤ k) : accUp (fun (_ : Int) (x : Int) => x * 10) 1 10 k = 10 ^ k.toNat := by
  refine accUp_eq (P := fun j => 10 ^ j.toNat) h rfl fun j h1 _ => ?_
  have e : (j + 1).toNat = j.toNat + 1 := by omega
  show (10 : Int) ^ (j + 1).toNat = 10 ^ j.toNat * 10
  rw [e, Int.pow_succ]
theorem fig_end {n k : Int} (hn : 0 ≤ n) (h1 : 1 ≤ k) (h2 : ∀ j, 1 ≤ j → j < k → decide (accUp (fun (_ : Int) (x : Int) => x * 10) 1 10 j ≤ n) = true) (h3 : decide (accUp (fun (_ : Int) (x : Int) => x * 10) 1 10 k ≤ n) = false) : k = (figN n.toNat : Int) := by
  rw [accUp10 h1, decide_eq_false_iff_not] at h3
  have c : ∀ i : Nat, ((10 ^ i : Nat) : Int) = (10 : Int) ^ i := fun i => by simp
  have hk : (k.toNat : Int) = k := by omega
  have : figN n.toNat = k.toNat := by
    refine figN_of _ _ (by omega) ?_ ?_
    · have := c k.toNat; omega
    · by_cases q : k = 1
      · left; omega
      · right
        have := h2 (k - 1) (by omega) (by omega)
        rw [accUp10 (by omega), decide_eq_true_eq] at this
        have e : (k - 1).toNat = k.toNat - 1 := by omega
        rw [e] at this
        have := c (k.toNat - 1)
        omega
  omega
end Mine
namespace Mine
theorem big_log {y : Int} (h0 : 0 < y) (h : y < 1000000000000000000000000000000000000000000000000000000000000) : y.natAbs.log2 < 9000 := by
  have h1 : y.natAbs ≠ 0 := by omega
  have h2 : y.natAbs < 1000000000000000000000000000000000000000000000000000000000000 := by omega
  have h3 : y.natAbs.log2 < 200 := (Nat.log2_lt h1).mpr (Nat.lt_of_lt_of_le h2 (by decide))
  omega
theorem pow10_le {k : Int} (n : Nat) (h : k ≤ n) : (10 : Int) ^ k.toNat ≤ 10 ^ n := by
  have : (10 : Nat) ^ k.toNat ≤ 10 ^ n := Nat.pow_le_pow_right (by omega) (by omega)
  have c : ∀ i : Nat, ((10 ^ i : Nat) : Int) = (10 : Int) ^ i := fun i => by simp
  have h1 := c k.toNat
  have h2 := c n
  omega
theorem pow10_pos (k : Int) : (0 : Int) < 10 ^ k.toNat := Int.pow_pos (by decide)
end Mine
end
section
namespace Mine
def rnd (n : Int) (k : Int) : Int := if 10 ^ k.toNat < 2 * Int.fmod n (10 ^ k.toNat) ∨ (2 * Int.fmod n (10 ^ k.toNat) = 10 ^ k.toNat ∧ Int.fmod (Int.fdiv n (10 ^ k.toNat)) 2 = 1) then Int.fdiv n (10 ^ k.toNat) + 1 else Int.fdiv n (10 ^ k.toNat)
theorem natpow (i : Nat) : ((10 ^ i : Nat) : Int) = (10 : Int) ^ i := by simp
theorem fig_le_int {n : Int} (h : 1 ≤ n) : (10 : Int) ^ (figN n.toNat - 1) ≤ n := by
  have := figN_le n.toNat (by omega)
  have := natpow (figN n.toNat - 1)
  omega
theorem fig_lt_int {n : Int} (h : 0 ≤ n) : n < (10 : Int) ^ figN n.toNat := by
  have := figN_lt n.toNat
  have := natpow (figN n.toNat)
  omega
theorem pow10_mono {i j : Nat} (h : i ≤ j) : (10 : Int) ^ i ≤ 10 ^ j := by
  have := Nat.pow_le_pow_right (n := 10) (by omega) h
  have := natpow i
  have := natpow j
  omega
theorem fig_zero {n : Nat} (h : 2 ≤ figN n) : 1 ≤ n := by
  rcases Nat.eq_zero_or_pos n with z | z
  · subst z; unfold figN at h; simp at h
  · exact z
theorem rnd_pos {n k : Int} (hn : 0 ≤ n) (hk : 1 ≤ k) (hf : k < (figN n.toNat : Nat)) : 0 < rnd n k := by
  have h1 : 1 ≤ n := by have := fig_zero (n := n.toNat) (by omega); omega
  have hp := pow10_pos k
  have h2 : (10 : Int) ^ k.toNat ≤ n := Int.le_trans (pow10_mono (by omega)) (fig_le_int h1)
  have h3 : 1 ≤ Int.fdiv n (10 ^ k.toNat) := by
    rw [Int.fdiv_eq_ediv_of_nonneg _ (Int.le_of_lt hp)]
    exact (Int.le_ediv_iff_mul_le hp).mpr (by omega)
  unfold rnd; split <;> omega
theorem rnd_le {n k : Int} (hn : 0 ≤ n) (hk : 1 ≤ k) (hf : k ≤ (figN n.toNat : Nat)) : rnd n k ≤ 10 ^ (figN n.toNat - k.toNat) := by
  have hp := pow10_pos k
  have h3 : Int.fdiv n (10 ^ k.toNat) < 10 ^ (figN n.toNat - k.toNat) := by
    rw [Int.fdiv_eq_ediv_of_nonneg _ (Int.le_of_lt hp)]
    refine (Int.ediv_lt_iff_lt_mul hp).mpr ?_
    rw [← Int.pow_add]
    have e : figN n.toNat - k.toNat + k.toNat = figN n.toNat := by omega
    rw [e]
    exact fig_lt_int hn
  unfold rnd; split <;> omega
def Strip (e0 R d sz ex : Int) : Prop := 0 < sz ∧ e0 ≤ ex ∧ 1 ≤ ((figN sz.toNat : Nat) : Int) ∧ ((figN sz.toNat : Nat) : Int) + (ex - e0) ≤ d + 1 ∧ sz * 10 ^ (ex - e0).toNat = R
theorem figN_mono_pow {n d : Nat} (h : n ≤ 10 ^ d) : figN n ≤ d + 1 := by
  rcases Nat.lt_or_ge (figN n) 2 with q | q
  · have := figN_pos n; omega
  · have h1 := figN_le n (fig_zero q)
    have h2 : 10 ^ (figN n - 1) ≤ 10 ^ d := Nat.le_trans h1 h
    have := (Nat.pow_le_pow_iff_right (a := 10) (by omega)).mp h2
    omega
theorem strip_start {e0 R d : Int} (h : 0 < R) (hd : 0 ≤ d) (h2 : R ≤ 10 ^ d.toNat) : Strip e0 R d R e0 := by
  refine ⟨h, by omega, by have := figN_pos R.toNat; omega, ?_, by simp⟩
  have := figN_mono_pow (n := R.toNat) (d := d.toNat) (by have := natpow d.toNat; omega)
  omega
theorem fdiv10 (n : Int) : Int.fdiv n 10 = n / 10 := Int.fdiv_eq_ediv_of_nonneg _ (by decide)
theorem fmod10 (n : Int) : Int.fmod n 10 = n % 10 := Int.fmod_eq_emod_of_nonneg _ (by decide)
theorem tnx {a b : Int} (h : b ≤ a) : (a + 1 - b).toNat = (a - b).toNat + 1 := by omega
theorem tq10 {s : Int} (h : 0 ≤ s) : (s / 10).toNat = s.toNat / 10 := by omega
theorem strip_turn {e0 R d sz ex : Int} (h : Strip e0 R d sz ex) (hm : Int.fmod sz 10 = 0) : Strip e0 R d (Int.fdiv sz 10) (ex + 1) ∧ (Int.fdiv sz 10).toNat < sz.toNat := by
  obtain ⟨h1, h2, h3, h4, h5⟩ := h
  rw [fmod10] at hm
  rw [fdiv10]
  have hp : sz = 10 * (sz / 10) := by omega
  have hf : figN sz.toNat = figN (sz / 10).toNat + 1 := by
    have e : (sz / 10).toNat = sz.toNat / 10 := tq10 (by omega)
    rw [e]
    conv => lhs; unfold figN
    rw [if_neg (by omega)]
  refine ⟨⟨by omega, by omega, ?_, by omega, ?_⟩, by omega⟩
  · have := figN_pos (sz / 10).toNat; omega
  · have e : (ex + 1 - e0).toNat = (ex - e0).toNat + 1 := tnx (by omega)
    rw [e, Int.pow_succ, ← h5]
    conv => rhs; rw [hp]
    rw [Int.mul_comm (10 ^ (ex - e0).toNat) 10, ← Int.mul_assoc, Int.mul_comm (sz / 10) 10]
end Mine
end
section
open PySem PySem.W PyProof.Rows PySem.Calls
set_option maxRecDepth 100000
namespace Mine
abbrev prog₀ : Program := PySem.Challenge.rw_pq0158_01.row.prog
section
variable {w : World} {p : Program} {loose : List Str} {mean : ExcName → Option Value} {mg mb : Str → Option Value} {dp un : Nat} {gd : Option (List Code)} {cn : Str} {cs : Scope} {a : Addr} {ccd : Value} {cl : List (Str × Addr)} {outer : List Env} {A₀ : Around} {base h₀ : Heap} {L : Addr} {m : Str → Option Value} {s : Shared} {Q E : Value → Shared → Prop} {news : List (Addr × Obj)}
set_option maxHeartbeats 1000000 in
theorem figures_c {n : Int} {t : Tok} (B : Below A₀ base outer h₀) (F : Fr h₀ L s.heap m) (X : (hd.heap_39 w.params).In h₀) (N : News h₀ L s.heap news) (T : Top p loose mean mg mb h₀) (hk : cs.kind = .function) (hn : 0 ≤ n)
    (hd : dp + 2 < recursionLimit) (hu : un + 20 < cLine)
    (hret : ∀ t' h' tk', Fr h₀ L h' m → News h₀ L h' news → Q (.int (figN n.toNat : Nat) t') { s with heap := h', toks := tk' }) :
    wpAny (model PySem.Challenge.rw_pq0158_01.row.prog w) (ktrTop dp un gd cn cs L a ccd cl outer) (call (.ref 44) [.int n t]) Q E s := by
  have hK : (PySem.Challenge.rw_pq0158_01 = PySem.Challenge.rw_pq0158_01 ∧ Mine.hd.heap_39 = Mine.hd.heap_39) := by
    k_fill
    exact ⟨rfl, rfl⟩
  clear hK
  refine wpAny_call ?_
  k_dflt ktr_enter
  k_steps
  rename_i a1 _ a3 a4 _ _ _ kF kN _ _
  have e := fig_end hn a1 a3 a4
  rw [e]
  exact hret _ _ _ kF (cb_drop kN fun q hq => .tail _ hq)

set_option maxHeartbeats 1000000 in
theorem with_rest_c {whole rest ex : Int} {t1 t2 t3 : Tok} (B : Below A₀ base outer h₀) (F : Fr h₀ L s.heap m) (X : (hd.heap_39 w.params).In h₀) (N : News h₀ L s.heap news) (T : Top p loose mean mg mb h₀) (hk : cs.kind = .function)
    (hd : dp + 2 < recursionLimit) (hu : un + 20 < cLine)
    (hret : ∀ D u1 u2 c h' tk', Fr h₀ L h' m → News h₀ L h' ((D, tup2 (if rest = 0 then whole else whole * 10 + 1) u1 (if rest = 0 then ex else ex - 1) u2 c) :: news) → (∀ q ∈ news, q.1 < D) → Q (.ref D) { s with heap := h', toks := tk' }) :
    wpAny (model PySem.Challenge.rw_pq0158_01.row.prog w) (ktrTop dp un gd cn cs L a ccd cl outer) (call (.ref 65) [.int whole t1, .int rest t2, .int ex t3]) Q E s := by
  have hK : (PySem.Challenge.rw_pq0158_01 = PySem.Challenge.rw_pq0158_01 ∧ Mine.hd.heap_39 = Mine.hd.heap_39) := by
    k_fill
    exact ⟨rfl, rfl⟩
  clear hK
  refine wpAny_call ?_
  k_dflt ktr_enter
  k_steps
  · rename_i h0 D h' F' N' l1 kF kN _ _
    simp only [if_pos h0] at hret
    exact hret _ _ _ _ _ _ kF kN l1
  · rename_i h0 D h' F' N' l1 kF kN _ _
    simp only [if_neg h0] at hret
    exact hret _ _ _ _ _ _ kF kN l1

set_option maxHeartbeats 1000000 in
theorem rounded_c {n k : Int} {t1 t2 : Tok} (B : Below A₀ base outer h₀) (F : Fr h₀ L s.heap m) (X : (hd.heap_39 w.params).In h₀) (N : News h₀ L s.heap news) (T : Top p loose mean mg mb h₀) (hk : cs.kind = .function)
    (hn : 0 ≤ n) (hk1 : 1 ≤ k) (hk2 : k ≤ (figN n.toNat : Nat)) (hk3 : k ≤ 40)
    (hd : dp + 3 < recursionLimit) (hu : un + 40 < cLine)
    (hret : ∀ t' h' tk', Fr h₀ L h' m → News h₀ L h' news → Q (.int (rnd n k) t') { s with heap := h', toks := tk' }) :
    wpAny (model PySem.Challenge.rw_pq0158_01.row.prog w) (ktrTop dp un gd cn cs L a ccd cl outer) (call (.ref 51) [.int n t1, .int k t2]) Q E s := by
  w_top off
  k_with_none
  (k_with "call ref" => (k_here; k_dflt (refine' figures_c ?zyk1 ?zyk2 ?zyk3 ?zyk4 ?zyk5 ?zykK ?zykp ?zykd ?zyku ?_; (case zyk1 => k_asm); (case zyk2 => k_asm); (case zyk3 => k_asm); (case zyk4 => k_asm); (case zyk5 => k_asm); (case zykK => first | exact rfl | assumption); (case zykp => first | assumption | omega); (case zykd => ktr_room); (case zyku => ktr_units)); intro t9 h9 tk9 F9 N9; (try dsimp only); (try k_fold)))
  (k_with "binaryOp FloorDiv int int" => (k_here; k_dflt (refine' floordiv_int ?zyhb ?_ (Or.inl (PyProof.noPylong_of_log2 (big_log ?zyh1 ?zyh2))); (case zyhb => omega); (case zyh1 => omega); (case zyh2 => omega))))
  have hK : (PySem.Challenge.rw_pq0158_01 = PySem.Challenge.rw_pq0158_01 ∧ Mine.hd.heap_39 = Mine.hd.heap_39) := by
    k_fill
    exact ⟨rfl, rfl⟩
  clear hK
  have hp := pow10_pos k
  have hp2 : (10 : Int) ^ k.toNat ≤ 10000000000000000000000000000000000000000 := pow10_le 40 hk3
  refine wpAny_call ?_
  k_dflt ktr_enter
  k_steps
  all_goals ((rename Fr _ _ _ _ => kF); (rename News _ _ _ _ => kN); (refine cb_retI hret ?_ kF (cb_drop kN fun q hq => .tail _ hq)); unfold rnd; split <;> omega)
end
end Mine
end
section
open PySem PySem.W PyProof.Rows PySem.Calls
set_option maxRecDepth 100000
namespace Mine
section
variable {w : World} {p : Program} {loose : List Str} {mean : ExcName → Option Value} {mg mb : Str → Option Value} {dp un : Nat} {gd : Option (List Code)} {cn : Str} {cs : Scope} {a : Addr} {ccd : Value} {cl : List (Str × Addr)} {outer : List Env} {A₀ : Around} {base h₀ : Heap} {L : Addr} {m : Str → Option Value} {s : Shared} {Q E : Value → Shared → Prop} {news : List (Addr × Obj)}
@[irreducible] def ab (c : Int) : Int := if c < 0 then -c else c
theorem ab_nonneg (c : Int) : 0 ≤ ab c := by unfold ab; split <;> omega
theorem abs_ab {prog : Program} {w : World} {A : Around} {c : Int} {t : Tok} {Q E : Value → Shared → Prop} {s : Shared} (h : ∀ u tk', Q (.int (ab c) u) { s with toks := tk' }) : wpAny (model prog w) A (call (.builtin "abs") [.int c t]) Q E s := by
  unfold ab at h
  exact call_abs_int h
theorem allLt_all {d : Addr} (l : List (Addr × Obj)) (h : AllLt d l) : ∀ p ∈ l, p.1 < d := by
  induction l with
  | nil => intro p hp; cases hp
  | cons x r ih =>
    intro p hp
    rcases List.mem_cons.mp hp with rfl | hp
    · exact h.1
    · exact ih h.2 p hp
theorem news_drop2 {h₀ h : Heap} {L : Addr} {x y : Addr × Obj} {l : List (Addr × Obj)} (N : News h₀ L h (x :: y :: l)) : News h₀ L h (x :: l) := fun p hp => by
  rcases List.mem_cons.mp hp with rfl | hp
  · exact N _ (.head _)
  · exact N _ (.tail _ (.tail _ hp))
def MadeIs (c e d sz ex : Int) : Prop := 0 < sz ∧ Int.fmod sz 10 ≠ 0 ∧ e + ((figN (ab c).toNat : Nat) - d) ≤ ex ∧ sz * 10 ^ (ex - (e + ((figN (ab c).toNat : Nat) - d))).toNat = rnd (ab c) ((figN (ab c).toNat : Nat) - d)
set_option maxHeartbeats 2000000 in
theorem made_pos {c e d : Int} {t1 t2 t3 : Tok} (B : Below A₀ base outer h₀) (F : Fr h₀ L s.heap m) (X : (hd.heap_39 w.params).In h₀) (N : News h₀ L s.heap news) (T : Top p loose mean mg mb h₀) (hk : cs.kind = .function)
    (hd1 : 1 ≤ d) (hd2 : d ≤ 10) (hf : d < (figN (ab c).toNat : Nat)) (hf2 : (figN (ab c).toNat : Nat) ≤ (40 : Int)) (he : -40 ≤ e) (he2 : e ≤ 40)
    (hd : dp + 4 < recursionLimit) (hu : un + 60 < cLine)
    (hret : ∀ sz ex D u1 u2 n h' tk', MadeIs c e d sz ex → Fr h₀ L h' m → News h₀ L h' ((D, tup2 (if c < 0 then -sz else sz) u1 ex u2 n) :: news) → (∀ q ∈ news, q.1 < D) → Q (.ref D) { s with heap := h', toks := tk' }) :
    wpAny (model PySem.Challenge.rw_pq0158_01.row.prog w) (ktrTop dp un gd cn cs L a ccd cl outer) (call (.ref 58) [.int c t1, .int e t2, .int d t3]) Q E s := by
  w_top off
  k_with_none
  (k_with "call ref" => (k_here; k_dflt (refine' figures_c ?zyk1 ?zyk2 ?zyk3 ?zyk4 ?zyk5 ?zykK ?zykp ?zykd ?zyku ?_; (case zyk1 => k_asm); (case zyk2 => k_asm); (case zyk3 => k_asm); (case zyk4 => k_asm); (case zyk5 => k_asm); (case zykK => first | exact rfl | assumption); (case zykp => first | assumption | omega); (case zykd => ktr_room); (case zyku => ktr_units)); intro t9 h9 tk9 F9 N9; (try dsimp only); (try k_fold)))
  (k_with "call ref" => (k_here; k_dflt (refine' rounded_c ?zyk1 ?zyk2 ?zyk3 ?zyk4 ?zyk5 ?zykK ?zykp ?zykp1 ?zykp2 ?zykp3 ?zykd ?zyku ?_; (case zyk1 => k_asm); (case zyk2 => k_asm); (case zyk3 => k_asm); (case zyk4 => k_asm); (case zyk5 => k_asm); (case zykK => first | exact rfl | assumption); (case zykp => first | assumption | omega); (case zykp1 => first | assumption | omega); (case zykp2 => first | assumption | omega); (case zykp3 => first | assumption | omega); (case zykd => ktr_room); (case zyku => ktr_units)); intro t9 h9 tk9 F9 N9; (try dsimp only); (try k_fold)))
  (k_with "binaryOp FloorDiv int int" => (k_here; k_dflt (refine' floordiv_int ?zyhb ?_ (Or.inl (PyProof.noPylong_of_log2 (big_log ?zyh1 ?zyh2))); (case zyhb => omega); (case zyh1 => omega); (case zyh2 => omega))))
  (k_with "KwdEnd1" => (k_dflt (refine' KwdEnd1.intro ?zye1 ?zye2 ?zye3 ?zye4 ?zye5 ?zye6 ?zye7 ?zye8 ?zye9; (case zye1 => assumption); (case zye2 => assumption); (case zye4 => with_unfolding_all rfl); (case zye6 => with_unfolding_all rfl); (case zye3 => k_sub); (case zye5 => exact ⟨_, rfl⟩); (case zye7 => k_extra "inv"); (case zye8 => k_extra "less"); (case zye9 => kwd_same1))))
  (k_with "call builtin:abs" => ((with_reducible refine abs_ab ?_); intro _ _))
  have hK : (PySem.Challenge.rw_pq0158_01 = PySem.Challenge.rw_pq0158_01 ∧ Mine.hd.heap_39 = Mine.hd.heap_39) := by
    k_fill
    exact ⟨rfl, rfl⟩
  clear hK
  have hnn : 0 ≤ ab c := ab_nonneg c
  have hR1 : 0 < rnd (ab c) ((figN (ab c).toNat : Nat) - d) := rnd_pos hnn (by omega) (by omega)
  have hR2 : rnd (ab c) ((figN (ab c).toNat : Nat) - d) ≤ 10 ^ d.toNat := by
    have := rnd_le (k := (figN (ab c).toNat : Nat) - d) hnn (by omega) (by omega)
    have e : figN (ab c).toNat - (((figN (ab c).toNat : Nat) : Int) - d).toNat = d.toNat := by omega
    rwa [e] at this
  refine wpAny_call ?_
  k_dflt ktr_enter
  (k_with "exec While Compare cons nil" => (k_here; (rename Fr _ _ _ _ => lF'); (rename News _ _ _ _ => lN'); (with_unfolding_all refine' kwd_while1 (δ := Int) (Rel := fun _ v z => ∃ u, v = Value.int z u) (y := Str.ofString "size") (z := Str.ofString "exponent") [] Int.toNat (fun _ _ sz ex => Strip (e + ((figN (ab c).toNat : Nat) - d)) (rnd (ab c) ((figN (ab c).toNat : Nat) - d)) d sz ex) lF' lN' (by rfl) (by rfl) ⟨_, rfl⟩ (strip_start hR1 (by omega) hR2) ?_); clear lF' lN'; rintro v' sz ex tx u' h' tk' ⟨us, rfl⟩ hI F' N'; (have hI2 := hI); (obtain ⟨b1, b2, b3, b4, b5⟩ := hI2); (try k_fold)))
  (k_with "inv" => (have hT := strip_turn hI (by assumption); exact hT.1))
  (k_with "less" => (have hT := strip_turn hI (by assumption); exact hT.2))
  k_steps
  · exfalso; omega
  · have hc : c < 0 := by omega
    (rename _ ∧ AllLt _ _ => l1); (rename Fr _ _ _ _ => kF); (rename News _ _ _ _ => kN)
    simp only [if_pos hc] at hret
    exact hret _ _ _ _ _ _ _ _ ⟨by assumption, by assumption, by assumption, by assumption⟩ kF (news_drop2 kN) (allLt_all _ l1.2)
  · have hc : ¬ c < 0 := by omega
    (rename _ ∧ AllLt _ _ => l1); (rename Fr _ _ _ _ => kF); (rename News _ _ _ _ => kN)
    simp only [if_neg hc] at hret
    exact hret _ _ _ _ _ _ _ _ ⟨by assumption, by assumption, by assumption, by assumption⟩ kF (news_drop2 kN) (allLt_all _ l1.2)
end
end Mine
end
section
namespace Mine
def NewtI (n g : Int) : Prop := 0 < g ∧ n < (g + 1) * (g + 1) ∧ g ≤ 10 ^ 41
theorem fdiv2 (n : Int) : Int.fdiv n 2 = n / 2 := Int.fdiv_eq_ediv_of_nonneg _ (by decide)
theorem sq_le {a b : Int} (h0 : 0 ≤ a) (h : a ≤ b) : a * a ≤ b * b := Int.mul_le_mul h h h0 (by omega)
theorem quo_facts {n g : Int} (hg : 0 < g) : Int.fdiv n g * g ≤ n ∧ n < (Int.fdiv n g + 1) * g := by
  rw [Int.fdiv_eq_ediv_of_nonneg _ (by omega)]
  have h1 := Int.mul_ediv_add_emod n g
  have h2 := Int.emod_nonneg n (show g ≠ 0 by omega)
  have h3 := Int.emod_lt_of_pos n hg
  rw [Int.add_mul, Int.one_mul, Int.mul_comm (n / g) g]
  omega
theorem newt_turn {n g : Int} (hn : 2 ≤ n) (h : NewtI n g) (hl : Int.fdiv (g + Int.fdiv n g) 2 < g) : NewtI n (Int.fdiv (g + Int.fdiv n g) 2) ∧ (Int.fdiv (g + Int.fdiv n g) 2).toNat < g.toNat := by
  obtain ⟨h1, h2, h3⟩ := h
  obtain ⟨q1, q2⟩ := quo_facts (n := n) h1
  rw [fdiv2] at hl ⊢
  generalize Int.fdiv n g = q at *
  have hq : 0 ≤ q := by
    false_or_by_contra
    rename_i hc
    have h5 : (q + 1) * g ≤ 0 := Int.mul_nonpos_of_nonpos_of_nonneg (by omega) (by omega)
    omega
  have hpos : 0 < (g + q) / 2 := by
    by_cases e : g = 1
    · subst e
      simp only [Int.mul_one] at q1 q2
      omega
    · omega
  refine ⟨⟨hpos, ?_, by omega⟩, by omega⟩
  generalize hl' : (g + q) / 2 = l at *
  have hS : g + (q + 1) ≤ 2 * (l + 1) := by omega
  have h4 := sq_le (show 0 ≤ g + (q + 1) by omega) hS
  have h5 : (g + (q + 1)) * (g + (q + 1)) = (g - (q + 1)) * (g - (q + 1)) + 4 * ((q + 1) * g) := by grind
  have h6 : 0 ≤ (g - (q + 1)) * (g - (q + 1)) := by
    rcases Int.le_total 0 (g - (q + 1)) with z | z
    · exact Int.mul_nonneg z z
    · exact Int.mul_nonneg_of_nonpos_of_nonpos z z
  have h7 : 2 * (l + 1) * (2 * (l + 1)) = 4 * ((l + 1) * (l + 1)) := by grind
  omega
theorem newt_end {n g : Int} (h : NewtI n g) (hl : g ≤ Int.fdiv (g + Int.fdiv n g) 2) : g * g ≤ n := by
  obtain ⟨h1, h2, h3⟩ := h
  obtain ⟨q1, q2⟩ := quo_facts (n := n) h1
  rw [fdiv2] at hl
  have : g * g ≤ Int.fdiv n g * g := Int.mul_le_mul_of_nonneg_right (by omega) (by omega)
  omega
theorem newt_start {n : Int} (hn : 0 ≤ n) (hf : ((figN n.toNat : Nat) : Int) ≤ 40) : NewtI n (10 ^ (Int.fdiv (figN n.toNat : Nat) 2 + 1).toNat) := by
  rw [fdiv2]
  have hp := pow10_pos ((figN n.toNat : Nat) / 2 + 1 : Int)
  refine ⟨hp, ?_, pow10_le 41 (by omega)⟩
  have h1 := fig_lt_int hn
  have h2 : (10 : Int) ^ figN n.toNat ≤ 10 ^ ((((figN n.toNat : Nat) : Int) / 2 + 1).toNat + (((figN n.toNat : Nat) : Int) / 2 + 1).toNat) := pow10_mono (by omega)
  rw [Int.pow_add] at h2
  have h3 := sq_le (Int.le_of_lt hp) (show (10 : Int) ^ (((figN n.toNat : Nat) : Int) / 2 + 1).toNat ≤ 10 ^ (((figN n.toNat : Nat) : Int) / 2 + 1).toNat + 1 by omega)
  omega
theorem fig_le_of {n : Int} {k : Nat} (h0 : 0 ≤ n) (h : n < 10 ^ k) (hk : 1 ≤ k) : ((figN n.toNat : Nat) : Int) ≤ k := by
  rcases Nat.lt_or_ge (figN n.toNat) 2 with q | q
  · omega
  · have h1 := fig_le_int (n := n) (by have := fig_zero q; omega)
    rcases Nat.lt_or_ge k (figN n.toNat) with r | r
    · have := pow10_mono (i := k) (j := figN n.toNat - 1) (by omega)
      omega
    · omega
def Between (W lo hi : Int) : Prop := (lo = W ∧ hi = W) ∨ ∃ q, W = 10 * q + 1 ∧ lo = 10 * q ∧ hi = 10 * q + 10
end Mine
end
section
open PySem PySem.W PyProof.Rows PySem.Calls
set_option maxRecDepth 100000
namespace Mine
section
variable {prog : Program} {w : World} {A : Around} {E : Value → Shared → Prop} {s : Shared} {h₀ : Heap} {L : Addr} {news : List (Addr × Obj)} {Q : Value → Shared → Prop} {value slice : PySem.Expr}
abbrev box2 (x : Int) (t : Tok) (y : Int) (u : Tok) (c : Nat) : Obj := { cls := .type "list", data := .seq #[.int x t, .int y u] c }
theorem idx2 {i : Int} (h0 : 0 ≤ i) : seqIndex? i 2 = if i < 2 then some i.toNat else none := by
  unfold seqIndex?
  by_cases h : i < 2
  · simp [h]; omega
  · simp [h]; omega
theorem t2_i {x : Addr} {a0 a1 i : Int} {t u k : Tok} {c : Nat} {v : Value} (N : News h₀ L s.heap news) (hm : (x, tup2 a0 t a1 u c) ∈ news) (h0 : 0 ≤ i) (h1 : i < 2) (hv : [Value.int a0 t, .int a1 u][i.toNat]? = some v) (h : Q v s)
    (hs : subscripted slice false (.ref x) (.int i k) = operate [.ref x, .int i k] (getItem (.ref x) (.int i k)) := by with_unfolding_all rfl) : wpAny (model prog w) A (subscriptTail value slice (.ref x) (.int i k)) Q E s :=
  tail_any (N.isTup hm).typeIs slot_tuple_getitem.lookup (getItem_tuple (N.isTup hm) (by omega) (by omega) (j := i.toNat) (by show seqIndex? i 2 = _; rw [idx2 h0, if_pos h1]) (by simpa using hv) h) hs
theorem b2_i {x : Addr} {a0 a1 i : Int} {t u k : Tok} {c : Nat} {v : Value} (N : News h₀ L s.heap news) (hm : (x, box2 a0 t a1 u c) ∈ news) (h0 : 0 ≤ i) (h1 : i < 2) (hv : [Value.int a0 t, .int a1 u][i.toNat]? = some v) (h : Q v s)
    (hs : subscripted slice false (.ref x) (.int i k) = operate [.ref x, .int i k] (getItem (.ref x) (.int i k)) := by with_unfolding_all rfl) : wpAny (model prog w) A (subscriptTail value slice (.ref x) (.int i k)) Q E s :=
  item_litK (vs := [.int a0 t, .int a1 u]) (N.isList hm) h0 (by omega) hv h hs
theorem b2_set {bx : Addr} {x y i z : Int} {t u tz t1 : Tok} {c : Nat} {q : List Value} {m : Str → Option Value} {Q : Unit → Shared → Prop} (F : Fr h₀ L s.heap m) (N : News h₀ L s.heap ((bx, box2 x t y u c) :: news)) (hne : ∀ p ∈ news, p.1 ≠ bx) (h0 : 0 ≤ i) (h1 : i < 2) (e : ki_setL [.int x t, .int y u] i.toNat (.int z tz) = some q)
    (h : ∀ h', Fr h₀ L h' m → News h₀ L h' ((bx, listOf q.toArray c) :: news) → Q () { s with heap := h' }) : wpAny (model prog w) A (setItem (.ref bx) (.int i t1) (.int z tz)) Q E s := 
  ki_set (its := #[.int x t, .int y u]) F N h0 (by omega) e (.head hne) h
end
end Mine
end
section
open PySem PySem.W PyProof.Rows PySem.Calls
set_option maxRecDepth 100000
namespace Mine
section
variable {w : World} {p : Program} {loose : List Str} {mean : ExcName → Option Value} {mg mb : Str → Option Value} {dp un : Nat} {gd : Option (List Code)} {cn : Str} {cs : Scope} {a : Addr} {ccd : Value} {cl : List (Str × Addr)} {outer : List Env} {A₀ : Around} {base h₀ : Heap} {L : Addr} {m : Str → Option Value} {s : Shared} {Q E : Value → Shared → Prop} {news : List (Addr × Obj)}
set_option maxHeartbeats 1000000 in
theorem made_zero {c e d : Int} {t1 t2 t3 : Tok} (B : Below A₀ base outer h₀) (F : Fr h₀ L s.heap m) (X : (hd.heap_39 w.params).In h₀) (N : News h₀ L s.heap news) (T : Top p loose mean mg mb h₀) (hk : cs.kind = .function)
    (hd1 : 1 ≤ d) (hc : c = 0)
    (hd : dp + 4 < recursionLimit) (hu : un + 60 < cLine)
    (hret : ∀ D u1 u2 n h' tk', Fr h₀ L h' m → News h₀ L h' ((D, tup2 0 u1 0 u2 n) :: news) → (∀ q ∈ news, q.1 < D) → Q (.ref D) { s with heap := h', toks := tk' }) :
    wpAny (model PySem.Challenge.rw_pq0158_01.row.prog w) (ktrTop dp un gd cn cs L a ccd cl outer) (call (.ref 58) [.int c t1, .int e t2, .int d t3]) Q E s := by
  w_top off
  k_with_none
  (k_with "call ref" => (k_here; k_dflt (refine' figures_c ?zyk1 ?zyk2 ?zyk3 ?zyk4 ?zyk5 ?zykK ?zykp ?zykd ?zyku ?_; (case zyk1 => k_asm); (case zyk2 => k_asm); (case zyk3 => k_asm); (case zyk4 => k_asm); (case zyk5 => k_asm); (case zykK => first | exact rfl | assumption); (case zykp => first | assumption | omega); (case zykd => ktr_room); (case zyku => ktr_units)); intro t9 h9 tk9 F9 N9; (try dsimp only); (try k_fold)))
  (k_with "call ref" => (k_here; k_dflt (refine' with_rest_c ?zyk1 ?zyk2 ?zyk3 ?zyk4 ?zyk5 ?zykK ?zykd ?zyku ?_; (case zyk1 => k_asm); (case zyk2 => k_asm); (case zyk3 => k_asm); (case zyk4 => k_asm); (case zyk5 => k_asm); (case zykK => first | exact rfl | assumption); (case zykd => ktr_room); (case zyku => ktr_units)); intro D9 u9 v9 n9 h9 tk9 F9 N9 l9; (try k_lt l9); (try dsimp only); (try k_fold)))
  (k_with "binaryOp FloorDiv int int" => (k_here; k_dflt (refine' floordiv_int ?zyhb ?_ (Or.inl (PyProof.noPylong_of_log2 (big_log ?zyh1 ?zyh2))); (case zyhb => omega); (case zyh1 => omega); (case zyh2 => omega))))
  (k_with "call builtin:abs" => ((with_reducible refine abs_ab ?_); intro _ _))
  (k_with "subscriptTail Name Constant ref int" => (k_here; (with_reducible show wpAny _ _ (subscriptTail _ _ (Value.ref _) (Value.int _ _)) _ _ _); (with_unfolding_all refine' t2_i ?zyN ?zyhm ?zyh0 ?zyh1 ?zyhv ?_ ?zyhs; (case zyN => k_asm); (case zyhm => with_reducible (first | assumption | exact List.mem_cons_self | (refine List.mem_cons_of_mem _ ?_; (first | assumption | exact List.mem_cons_self | (refine List.mem_cons_of_mem _ ?_; (first | assumption | exact List.mem_cons_self | (refine List.mem_cons_of_mem _ ?_; (first | assumption | exact List.mem_cons_self | (refine List.mem_cons_of_mem _ ?_; (first | assumption | exact List.mem_cons_self | (refine List.mem_cons_of_mem _ ?_; (first | assumption | exact List.mem_cons_self)))))))))))); (case zyh0 => decide); (case zyh1 => decide); (case zyhv => exact rfl); (case zyhs => with_unfolding_all rfl); k_whole)))
  (k_with "exec While Compare cons nil" => (exfalso; omega))
  (k_with "exec Raise some none" => (exfalso; omega))
  have hK : (PySem.Challenge.rw_pq0158_01 = PySem.Challenge.rw_pq0158_01 ∧ Mine.hd.heap_39 = Mine.hd.heap_39) := by
    k_fill
    exact ⟨rfl, rfl⟩
  clear hK
  have h0 : ab c = 0 := by subst hc; unfold ab; rfl
  have hf : ((figN (ab c).toNat : Nat) : Int) = 1 := by rw [h0]; unfold figN; rfl
  have hnn : 0 ≤ ab c := by omega
  clear hc
  refine wpAny_call ?_
  k_dflt ktr_enter
  k_steps
  · (rename Fr _ _ _ _ => kF); (rename News _ _ _ _ => kN)
    exact hret _ _ _ _ _ _ kF kN (by assumption)
theorem ab_pos {c : Int} (h : c ≠ 0) : 0 < ab c := by unfold ab; split <;> omega
theorem ab_lt {c k : Int} (h1 : -k < c) (h2 : c < k) : ab c < k := by unfold ab; split <;> omega
theorem ab_of_pos {c : Int} (h : 0 < c) : ab c = c := by unfold ab; split <;> omega
theorem ab_zsub {c : Int} : ab (0 - c) = ab c := by unfold ab; split <;> split <;> omega
end
end Mine
end
section
open PySem PySem.W PyProof.Rows PySem.Calls
set_option maxRecDepth 100000
namespace Mine
section
variable {w : World} {p : Program} {loose : List Str} {mean : ExcName → Option Value} {mg mb : Str → Option Value} {dp un : Nat} {gd : Option (List Code)} {cn : Str} {cs : Scope} {a : Addr} {ccd : Value} {cl : List (Str × Addr)} {outer : List Env} {A₀ : Around} {base h₀ : Heap} {L : Addr} {m : Str → Option Value} {s : Shared} {Q E : Value → Shared → Prop} {news : List (Addr × Obj)}
set_option maxHeartbeats 600000 in
theorem take_c {bx : Addr} {x y n : Int} {t1 t2 t3 : Tok} {k : Nat} (B : Below A₀ base outer h₀) (F : Fr h₀ L s.heap m) (X : (hd.heap_39 w.params).In h₀) (N : News h₀ L s.heap ((bx, box2 x t1 y t2 k) :: news)) (T : Top p loose mean mg mb h₀) (hk : cs.kind = .function)
    (hne : ∀ p ∈ news, p.1 ≠ bx) (hn : 1 ≤ n) (hn2 : n ≤ 1000000)
    (hd : dp + 4 < recursionLimit) (hu : un + 60 < cLine)
    (hret : ∀ v x' y' tv tx ty h' tk', 0 ≤ v → v < n → Fr h₀ L h' m → News h₀ L h' ((bx, box2 x' tx y' ty k) :: news) → Q (.int v tv) { s with heap := h', toks := tk' }) :
    wpAny (model PySem.Challenge.rw_pq0158_01.row.prog w) (ktrTop dp un gd cn cs L a ccd cl outer) (call (.ref 93) [.ref bx, .int n t3]) Q E s := by
  w_top off
  k_with_none
  (k_with "subscriptTail Name Constant ref int" => (k_here; (with_reducible show wpAny _ _ (subscriptTail _ _ (Value.ref _) (Value.int _ _)) _ _ _); (with_unfolding_all refine' b2_i ?zyN ?zyhm ?zyh0 ?zyh1 ?zyhv ?_ ?zyhs; (case zyN => k_asm); (case zyhm => with_reducible (repeat first | done | assumption | exact List.Mem.head _ | apply List.Mem.tail)); (case zyh0 => decide); (case zyh1 => decide); (case zyhv => exact rfl); (case zyhs => with_unfolding_all rfl); k_whole)))
  (k_with "setItem ref int" => (k_here; (with_reducible show wpAny _ _ (setItem (Value.ref _) (Value.int _ _) (Value.int _ _)) _ _ _); (with_unfolding_all refine' b2_set ?zyF ?zyN ?zyne ?zyh0 ?zyh1 ?zye ?_; (case zyF => k_asm); (case zyN => k_asm); (case zyne => with_reducible assumption); (case zyh0 => decide); (case zyh1 => decide); (case zye => exact rfl); k_whole); intro h9 F9 N9; (try dsimp only at N9)))
  have hK : (PySem.Challenge.rw_pq0158_01 = PySem.Challenge.rw_pq0158_01 ∧ Mine.hd.heap_39 = Mine.hd.heap_39) := by
    k_fill
    exact ⟨rfl, rfl⟩
  clear hK
  have h1 : ∀ z, 0 ≤ Int.fmod z n := fun z => Int.fmod_nonneg_of_pos z (by omega)
  have h2 : ∀ z, Int.fmod z n < n := fun z => Int.fmod_lt_of_pos z (by omega)
  refine wpAny_call ?_
  k_dflt ktr_enter
  k_steps
  all_goals try ((rename Fr _ _ _ _ => kF); (rename News _ _ _ _ => kN); exact hret _ _ _ _ _ _ _ _ (h1 _) (h2 _) kF kN)
end
end Mine
end
section
open PySem PySem.W PyProof.Rows PySem.Calls
set_option maxRecDepth 100000
namespace Mine
section
variable {w : World} {p : Program} {loose : List Str} {mean : ExcName → Option Value} {mg mb : Str → Option Value} {dp un : Nat} {gd : Option (List Code)} {cn : Str} {cs : Scope} {a : Addr} {ccd : Value} {cl : List (Str × Addr)} {outer : List Env} {A₀ : Around} {base h₀ : Heap} {L : Addr} {m : Str → Option Value} {s : Shared} {Q E : Value → Shared → Prop} {news : List (Addr × Obj)}
theorem root_of_small : True := trivial
set_option maxHeartbeats 1500000 in
theorem root_of_c {n : Int} {t3 : Tok} (B : Below A₀ base outer h₀) (F : Fr h₀ L s.heap m) (X : (hd.heap_39 w.params).In h₀) (N : News h₀ L s.heap news) (T : Top p loose mean mg mb h₀) (hk : cs.kind = .function)
    (hn : 0 ≤ n) (hn2 : n < 10 ^ 40)
    (hd : dp + 4 < recursionLimit) (hu : un + 60 < cLine)
    (hret : ∀ r tr h' tk', 0 ≤ r → r * r ≤ n → n < (r + 1) * (r + 1) → Fr h₀ L h' m → News h₀ L h' news → Q (.int r tr) { s with heap := h', toks := tk' }) :
    wpAny (model PySem.Challenge.rw_pq0158_01.row.prog w) (ktrTop dp un gd cn cs L a ccd cl outer) (call (.ref 79) [.int n t3]) Q E s := by
  w_top off
  k_with_none
  (k_with "call ref" => (k_here; k_dflt (refine' figures_c ?zyk1 ?zyk2 ?zyk3 ?zyk4 ?zyk5 ?zykK ?zykp ?zykd ?zyku ?_; (case zyk1 => k_asm); (case zyk2 => k_asm); (case zyk3 => k_asm); (case zyk4 => k_asm); (case zyk5 => k_asm); (case zykK => first | exact rfl | assumption); (case zykp => first | assumption | omega); (case zykd => ktr_room); (case zyku => ktr_units)); intro t9 h9 tk9 F9 N9; (try dsimp only); (try k_fold)))
  (k_with "binaryOp FloorDiv int int" => (k_here; k_dflt (refine' floordiv_int ?zyhb ?_ (Or.inl (PyProof.noPylong_of_log2 (big_log ?zyh1 ?zyh2))); (case zyhb => omega); (case zyh1 => omega); (case zyh2 => omega))))
  (k_with "KwdEnd1" => (k_dflt (refine' KwdEnd1.intro ?zye1 ?zye2 ?zye3 ?zye4 ?zye5 ?zye6 ?zye7 ?zye8 ?zye9; (case zye1 => assumption); (case zye2 => assumption); (case zye4 => with_unfolding_all rfl); (case zye6 => with_unfolding_all rfl); (case zye3 => k_sub); (case zye5 => exact ⟨_, rfl⟩); (case zye7 => k_extra "inv"); (case zye8 => k_extra "less"); (case zye9 => kwd_same1))))
  have hK : (PySem.Challenge.rw_pq0158_01 = PySem.Challenge.rw_pq0158_01 ∧ Mine.hd.heap_39 = Mine.hd.heap_39) := by
    k_fill
    exact ⟨rfl, rfl⟩
  clear hK
  have hp1 := figN_pos n.toNat
  have hp2 : ((figN n.toNat : Nat) : Int) ≤ 40 := fig_le_of (k := 40) hn hn2 (by omega)
  have hst := newt_start hn hp2
  refine wpAny_call ?_
  k_dflt ktr_enter
  (k_with "exec While Constant cons nil" => (k_here; (rename Fr _ _ _ _ => lF'); (rename News _ _ _ _ => lN'); (with_unfolding_all refine' kwd_while1 (δ := Int) (Rel := fun _ v z => ∃ u, v = Value.int z u) (y := Str.ofString "guess") (z := Str.ofString "number") [Str.ofString "later"] Int.toNat (fun _ n0 g n' => n' = n0 ∧ NewtI n g) lF' lN' (by rfl) (by rfl) ⟨_, rfl⟩ ⟨rfl, hst⟩ ?_); clear lF' lN'; rintro v' sz ex tx u' h' tk' ⟨us, rfl⟩ ⟨rfl, hI⟩ F' N'; (have hI2 := hI); (obtain ⟨b1, b2, b3⟩ := hI2); (try k_fold)))
  (k_with "inv" => (have hT := newt_turn (by omega) hI (by omega); exact ⟨rfl, hT.1⟩))
  (k_with "less" => (have hT := newt_turn (by omega) hI (by omega); exact hT.2))
  k_steps
  · (rename Fr _ _ _ _ => kF); (rename News _ _ _ _ => kN)
    refine hret _ _ _ _ hn ?_ ?_ kF kN
    · rcases (show n = 0 ∨ n = 1 by omega) with e | e <;> subst e <;> decide
    · rcases (show n = 0 ∨ n = 1 by omega) with e | e <;> subst e <;> decide
  · (rename Fr _ _ _ _ => kF); (rename News _ _ _ _ => kN)
    refine hret _ _ _ _ (by omega) (newt_end hI ?_) b2 kF (cb_drop kN fun q hq => hq)
    assumption
end
end Mine
end
section
open PySem PySem.W PyProof.Rows PySem.Calls
set_option maxRecDepth 100000
namespace Mine
section
variable {w : World} {p : Program} {loose : List Str} {mean : ExcName → Option Value} {mg mb : Str → Option Value} {dp un : Nat} {gd : Option (List Code)} {cn : Str} {cs : Scope} {a : Addr} {ccd : Value} {cl : List (Str × Addr)} {outer : List Env} {A₀ : Around} {base h₀ : Heap} {L : Addr} {m : Str → Option Value} {s : Shared} {Q E : Value → Shared → Prop} {news : List (Addr × Obj)}
def GrowI (s0 p0 d sz ex : Int) : Prop := 0 < sz ∧ sz < 10 ^ d.toNat ∧ ∃ i : Nat, sz = s0 * 10 ^ i ∧ ex = p0 - i
def Grown (s0 p0 d sz ex : Int) : Prop := GrowI s0 p0 d sz ex ∧ 10 ^ d.toNat ≤ sz * 10
theorem grow_turn {s0 p0 d sz ex : Int} (h : GrowI s0 p0 d sz ex) (h2 : sz * 10 < 10 ^ d.toNat) : GrowI s0 p0 d (sz * 10) (ex - 1) ∧ (10 ^ d.toNat - sz * 10).toNat < (10 ^ d.toNat - sz).toNat := by
  obtain ⟨a, b, i, c, e⟩ := h
  refine ⟨⟨by omega, by omega, i + 1, ?_, by omega⟩, by omega⟩
  rw [c, Int.pow_succ, Int.mul_assoc]
set_option maxHeartbeats 1500000 in
theorem grown_c {f : Addr} {f0 f1 d : Int} {t1 t2 t3 : Tok} {k : Nat} (B : Below A₀ base outer h₀) (F : Fr h₀ L s.heap m) (X : (hd.heap_39 w.params).In h₀) (N : News h₀ L s.heap news) (T : Top p loose mean mg mb h₀) (hk : cs.kind = .function)
    (hf : (f, tup2 f0 t1 f1 t2 k) ∈ news) (hd1 : 1 ≤ d) (hd2 : d ≤ 6) (hs : 0 < ab f0) (hs2 : ab f0 < 10 ^ d.toNat)
    (hd : dp + 4 < recursionLimit) (hu : un + 60 < cLine)
    (hret : ∀ sz ex D u1 u2 n h' tk', Grown (ab f0) f1 d sz ex → Fr h₀ L h' m → News h₀ L h' ((D, tup2 sz u1 ex u2 n) :: news) → (∀ q ∈ news, q.1 < D) → Q (.ref D) { s with heap := h', toks := tk' }) :
    wpAny (model PySem.Challenge.rw_pq0158_01.row.prog w) (ktrTop dp un gd cn cs L a ccd cl outer) (call (.ref 128) [.ref f, .int d t3]) Q E s := by
  w_top off
  k_with_none
  (k_with "binaryOp FloorDiv int int" => (k_here; k_dflt (refine' floordiv_int ?zyhb ?_ (Or.inl (PyProof.noPylong_of_log2 (big_log ?zyh1 ?zyh2))); (case zyhb => omega); (case zyh1 => omega); (case zyh2 => omega))))
  (k_with "call builtin:abs" => ((with_reducible refine abs_ab ?_); intro _ _))
  (k_with "KwdEnd1" => (k_dflt (refine' KwdEnd1.intro ?zye1 ?zye2 ?zye3 ?zye4 ?zye5 ?zye6 ?zye7 ?zye8 ?zye9; (case zye1 => assumption); (case zye2 => assumption); (case zye4 => with_unfolding_all rfl); (case zye6 => with_unfolding_all rfl); (case zye3 => k_sub); (case zye5 => exact ⟨_, rfl⟩); (case zye7 => k_extra "inv"); (case zye8 => k_extra "less"); (case zye9 => kwd_same1))))
  have hK : (PySem.Challenge.rw_pq0158_01 = PySem.Challenge.rw_pq0158_01 ∧ Mine.hd.heap_39 = Mine.hd.heap_39) := by
    k_fill
    exact ⟨rfl, rfl⟩
  clear hK
  have hp : (10 : Int) ^ d.toNat ≤ 1000000 := pow10_le 6 hd2
  refine wpAny_call ?_
  k_dflt ktr_enter
  (k_with "exec While Compare cons nil" => (k_here; (rename Fr _ _ _ _ => lF'); (rename News _ _ _ _ => lN'); (with_unfolding_all refine' kwd_while1 (δ := Int) (Rel := fun _ v z => ∃ u, v = Value.int z u) (y := Str.ofString "size") (z := Str.ofString "power") [] (fun z => (10 ^ d.toNat - z).toNat) (fun _ _ sz ex => GrowI (ab f0) f1 d sz ex) lF' lN' (by rfl) (by rfl) ⟨_, rfl⟩ ⟨hs, hs2, 0, by simp, by simp⟩ ?_); clear lF' lN'; rintro v' sz ex tx u' h' tk' ⟨us, rfl⟩ hI F' N'; (have hI2 := hI); (obtain ⟨b1, b2, b3⟩ := hI2); (try k_fold)))
  (k_with "inv" => (have hT := grow_turn hI (by assumption); exact hT.1))
  (k_with "less" => (have hT := grow_turn hI (by assumption); exact hT.2))
  k_steps
  all_goals try ((rename _ ∧ AllLt _ _ => l1); (rename Fr _ _ _ _ => kF); (rename News _ _ _ _ => kN); exact hret _ _ _ _ _ _ _ _ ⟨hI, by omega⟩ kF (news_drop2 kN) (allLt_all _ l1.2))
end
end Mine
end
section
namespace Mine
theorem fig_ge {n : Int} {k : Nat} (h0 : 0 ≤ n) (h : 10 ^ k ≤ n) : k + 1 ≤ figN n.toNat := by
  have h1 := fig_lt_int h0
  rcases Nat.lt_or_ge k (figN n.toNat) with q | q
  · omega
  · have := pow10_mono q
    omega
def dP (A B d : Int) : Int := d + 2 + if ((figN B.toNat : Nat) : Int) - ((figN A.toNat : Nat) : Int) > 0 then ((figN B.toNat : Nat) : Int) - ((figN A.toNat : Nat) : Int) else 0
def dS (A B d : Int) : Int := A * 10 ^ (dP A B d).toNat
def dW (A B d : Int) : Int := if (dS A B d).fmod B = 0 then (dS A B d).fdiv B else (dS A B d).fdiv B * 10 + 1
def dX (A B d e : Int) : Int := if (dS A B d).fmod B = 0 then e - dP A B d else e - dP A B d - 1
theorem dP_bd {A B d : Int} (hA0 : 0 ≤ A) (hB0 : 0 ≤ B) (hA : A < 1000000) (hB : B < 1000000) : d + 2 ≤ dP A B d ∧ dP A B d ≤ d + 7 ∧ d + 2 + (figN B.toNat : Nat) ≤ dP A B d + (figN A.toNat : Nat) := by
  have h1 := figN_pos A.toNat
  have h2 := figN_pos B.toNat
  have h3 := fig_le_of (k := 6) hA0 hA (by omega)
  have h4 := fig_le_of (k := 6) hB0 hB (by omega)
  unfold dP
  split <;> omega
theorem dW_bd {A B d : Int} (hA0 : 0 < A) (hB0 : 0 < B) (hA : A < 1000000) (hB : B < 1000000) (hd1 : 1 ≤ d) (hd2 : d ≤ 6) : (10 : Int) ^ (d + 1).toNat ≤ dW A B d ∧ dW A B d < 10 ^ 30 ∧ ∃ q, 0 < q ∧ q = (dS A B d).fdiv B := by
  obtain ⟨p1, p2, p3⟩ := dP_bd (d := d) (Int.le_of_lt hA0) (Int.le_of_lt hB0) hA hB
  have ha := fig_le_int (n := A) (by omega)
  have hb := fig_lt_int (n := B) (by omega)
  have hpa := figN_pos A.toNat
  obtain ⟨q1, q2⟩ := quo_facts (n := dS A B d) hB0
  unfold dW
  generalize hq : (dS A B d).fdiv B = q at *
  have hpP := pow10_pos (dP A B d)
  have hSpos : 0 < dS A B d := Int.mul_pos hA0 hpP
  have hS : dS A B d < 10 ^ 20 := by
    have e1 : A * 10 ^ (dP A B d).toNat ≤ 1000000 * 10 ^ (dP A B d).toNat := Int.mul_le_mul_of_nonneg_right (by omega) (by omega)
    have e2 : (10 : Int) ^ (dP A B d).toNat ≤ 10 ^ 13 := pow10_le 13 (by omega)
    unfold dS
    omega
  have hlow : (10 : Int) ^ (d + 1).toNat * 10 ^ figN B.toNat ≤ dS A B d := by
    rw [← Int.pow_add]
    refine Int.le_trans (pow10_mono (j := (figN A.toNat - 1) + (dP A B d).toNat) (by omega)) ?_
    rw [Int.pow_add]
    exact Int.mul_le_mul_of_nonneg_right ha (by omega)
  have hq0 : 0 ≤ q := by
    false_or_by_contra
    have : (q + 1) * B ≤ 0 := Int.mul_nonpos_of_nonpos_of_nonneg (by omega) (by omega)
    omega
  have hup : (q + 1) * B ≤ (q + 1) * 10 ^ figN B.toNat := Int.mul_le_mul_of_nonneg_left (by omega) (by omega)
  have hlt : (10 : Int) ^ (d + 1).toNat < q + 1 := by
    refine Int.lt_of_mul_lt_mul_right (a := 10 ^ figN B.toNat) ?_ (Int.le_of_lt (Int.pow_pos (by decide)))
    omega
  have hqS : q * 1 ≤ q * B := Int.mul_le_mul_of_nonneg_left (by omega) hq0
  have hp1 := pow10_pos (d + 1)
  refine ⟨by split <;> omega, by split <;> omega, q, by omega, rfl⟩
theorem pow_succ_pos (n : Nat) : (0 : Int) < 10 ^ n := Int.pow_pos (by decide)
theorem dW_pos {A B d : Int} (hA0 : 0 < A) (hB0 : 0 < B) (hA : A < 1000000) (hB : B < 1000000) (hd1 : 1 ≤ d) (hd2 : d ≤ 6) : 0 < dW A B d := by
  have h := (dW_bd hA0 hB0 hA hB hd1 hd2).1
  have := pow10_pos (d + 1)
  omega
theorem dm1 {A B d : Int} (hA0 : 0 < A) (hB0 : 0 < B) (hA : A < 1000000) (hB : B < 1000000) (hd1 : 1 ≤ d) (hd2 : d ≤ 6) : d < (figN (ab (dW A B d)).toNat : Nat) := by
  have h0 := dW_pos hA0 hB0 hA hB hd1 hd2
  rw [ab_of_pos h0]
  have := fig_ge (by omega) (dW_bd hA0 hB0 hA hB hd1 hd2).1
  omega
theorem dm2 {A B d : Int} (hA0 : 0 < A) (hB0 : 0 < B) (hA : A < 1000000) (hB : B < 1000000) (hd1 : 1 ≤ d) (hd2 : d ≤ 6) : (figN (ab (dW A B d)).toNat : Nat) ≤ (40 : Int) := by
  have h0 := dW_pos hA0 hB0 hA hB hd1 hd2
  rw [ab_of_pos h0]
  have := fig_le_of (k := 30) (by omega) (dW_bd hA0 hB0 hA hB hd1 hd2).2.1 (by omega)
  omega
theorem dm1' {A B d : Int} (hA0 : 0 < A) (hB0 : 0 < B) (hA : A < 1000000) (hB : B < 1000000) (hd1 : 1 ≤ d) (hd2 : d ≤ 6) : d < (figN (ab (0 - dW A B d)).toNat : Nat) := by
  rw [ab_zsub]; exact dm1 hA0 hB0 hA hB hd1 hd2
theorem dm2' {A B d : Int} (hA0 : 0 < A) (hB0 : 0 < B) (hA : A < 1000000) (hB : B < 1000000) (hd1 : 1 ≤ d) (hd2 : d ≤ 6) : (figN (ab (0 - dW A B d)).toNat : Nat) ≤ (40 : Int) := by
  rw [ab_zsub]; exact dm2 hA0 hB0 hA hB hd1 hd2
theorem dX_bd {A B d e : Int} (hA0 : 0 ≤ A) (hB0 : 0 ≤ B) (hA : A < 1000000) (hB : B < 1000000) (hd1 : 1 ≤ d) (hd2 : d ≤ 6) (h1 : -18 ≤ e) (h2 : e ≤ 18) : -40 ≤ dX A B d e ∧ dX A B d e ≤ 40 := by
  obtain ⟨p1, p2, p3⟩ := dP_bd (d := d) hA0 hB0 hA hB
  unfold dX
  split <;> omega
def DivIs (a0 a1 b0 b1 d f0 f1 : Int) : Prop := ∃ sz, MadeIs (dW (ab a0) (ab b0) d) (dX (ab a0) (ab b0) d (a1 - b1)) d sz f1 ∧ f0 = if (decide (a0 < 0) == decide (b0 < 0)) = true then sz else -sz
theorem div_fin1 {a0 a1 b0 b1 d sz ex : Int} (hW : 0 < dW (ab a0) (ab b0) d) (g : (decide (a0 < 0) == decide (b0 < 0)) = true) (h : MadeIs (dW (ab a0) (ab b0) d) (dX (ab a0) (ab b0) d (a1 - b1)) d sz ex) : DivIs a0 a1 b0 b1 d (if dW (ab a0) (ab b0) d < 0 then -sz else sz) ex := by
  refine ⟨sz, h, ?_⟩
  rw [if_pos g, if_neg (by omega)]
theorem div_fin2 {a0 a1 b0 b1 d sz ex : Int} (hW : 0 < dW (ab a0) (ab b0) d) (g : ¬ (decide (a0 < 0) == decide (b0 < 0)) = true) (h : MadeIs (0 - dW (ab a0) (ab b0) d) (dX (ab a0) (ab b0) d (a1 - b1)) d sz ex) : DivIs a0 a1 b0 b1 d (if 0 - dW (ab a0) (ab b0) d < 0 then -sz else sz) ex := by
  refine ⟨sz, ?_, ?_⟩
  · unfold MadeIs at h ⊢
    rwa [ab_zsub] at h
  · rw [if_neg g, if_pos (by omega)]
theorem zW {A B d : Int} (h : A = 0) : dW A B d = 0 := by
  unfold dW dS
  subst h
  simp
theorem zW' {A B d : Int} (h : A = 0) : 0 - dW A B d = 0 := by rw [zW h]; rfl
def rW (S r : Int) : Int := if S - r * r = 0 then r else r * 10 + 1
theorem root_small {r n : Int} (h0 : 0 ≤ r) (h : r * r ≤ n) (hn : n < 10 ^ 30) : r < 10 ^ 15 := by
  false_or_by_contra
  have := sq_le (a := 10 ^ 15) (b := r) (by decide) (by omega)
  omega
theorem root_big {r n : Int} {k : Nat} (h0 : 0 ≤ r) (h : n < (r + 1) * (r + 1)) (hn : 10 ^ (k + k) ≤ n) : 10 ^ k ≤ r := by
  false_or_by_contra
  have h1 := sq_le (a := r + 1) (b := 10 ^ k) (by omega) (by omega)
  rw [Int.pow_add] at hn
  omega
theorem root_S {a0 d P : Int} (h1 : 0 < a0) (h2 : a0 < 1000000) (hd1 : 1 ≤ d) (hd2 : d ≤ 6) (hP1 : 2 * d + 4 ≤ P) (hP2 : P ≤ 2 * d + 5) : a0 * 10 ^ P.toNat < 10 ^ 30 ∧ (10 : Int) ^ ((d + 2).toNat + (d + 2).toNat) ≤ a0 * 10 ^ P.toNat := by
  have e1 : a0 * 10 ^ P.toNat ≤ 1000000 * 10 ^ P.toNat := Int.mul_le_mul_of_nonneg_right (by omega) (Int.le_of_lt (pow10_pos P))
  have e2 : (10 : Int) ^ P.toNat ≤ 10 ^ 17 := pow10_le 17 (by omega)
  have e3 : 1 * (10 : Int) ^ P.toNat ≤ a0 * 10 ^ P.toNat := Int.mul_le_mul_of_nonneg_right (by omega) (Int.le_of_lt (pow10_pos P))
  have e4 : (10 : Int) ^ ((d + 2).toNat + (d + 2).toNat) ≤ 10 ^ P.toNat := pow10_mono (by omega)
  omega
theorem rW_bd {a0 d P r : Int} (h1 : 0 < a0) (h2 : a0 < 1000000) (hd1 : 1 ≤ d) (hd2 : d ≤ 6) (hP1 : 2 * d + 4 ≤ P) (hP2 : P ≤ 2 * d + 5) (h0 : 0 ≤ r) (hr1 : r * r ≤ a0 * 10 ^ P.toNat) (hr2 : a0 * 10 ^ P.toNat < (r + 1) * (r + 1)) :
    0 < rW (a0 * 10 ^ P.toNat) r ∧ d < (figN (ab (rW (a0 * 10 ^ P.toNat) r)).toNat : Nat) ∧ (figN (ab (rW (a0 * 10 ^ P.toNat) r)).toNat : Nat) ≤ (40 : Int) := by
  obtain ⟨s1, s2⟩ := root_S h1 h2 hd1 hd2 hP1 hP2
  have r1 := root_small h0 hr1 s1
  have r2 := root_big h0 hr2 s2
  have hp := pow10_pos (d + 2)
  have h5 : 0 < rW (a0 * 10 ^ P.toNat) r := by unfold rW; split <;> omega
  have h6 : 10 ^ (d + 2).toNat ≤ rW (a0 * 10 ^ P.toNat) r := by unfold rW; split <;> omega
  have h7 : rW (a0 * 10 ^ P.toNat) r < 10 ^ 30 := by unfold rW; split <;> omega
  rw [ab_of_pos h5]
  have h8 := fig_ge (by omega) h6
  have h9 := fig_le_of (k := 30) (by omega) h7 (by omega)
  exact ⟨h5, by omega, by omega⟩
def RootIs (a0 a1 d f0 f1 : Int) : Prop := ∃ r P, 0 ≤ r ∧ r * r ≤ a0 * 10 ^ P.toNat ∧ a0 * 10 ^ P.toNat < (r + 1) * (r + 1) ∧ 2 * d + 4 ≤ P ∧ P ≤ 2 * d + 5 ∧ Int.fmod (a1 - P) 2 = 0 ∧ MadeIs (rW (a0 * 10 ^ P.toNat) r) (if a0 * 10 ^ P.toNat - r * r = 0 then Int.fdiv (a1 - P) 2 else Int.fdiv (a1 - P) 2 - 1) d f0 f1
end Mine
end
section
namespace Mine
theorem fmod2 (n : Int) : Int.fmod n 2 = n % 2 := Int.fmod_eq_emod_of_nonneg _ (by decide)
theorem root_fin {a0 a1 d r P sz ex : Int} (hc : 0 < rW (a0 * 10 ^ P.toNat) r) (r1 : 0 ≤ r) (r2 : r * r ≤ a0 * 10 ^ P.toNat) (r3 : a0 * 10 ^ P.toNat < (r + 1) * (r + 1)) (p1 : 2 * d + 4 ≤ P) (p2 : P ≤ 2 * d + 5) (p3 : Int.fmod (a1 - P) 2 = 0)
    (h : MadeIs (rW (a0 * 10 ^ P.toNat) r) (if a0 * 10 ^ P.toNat - r * r = 0 then Int.fdiv (a1 - P) 2 else Int.fdiv (a1 - P) 2 - 1) d sz ex) : RootIs a0 a1 d (if rW (a0 * 10 ^ P.toNat) r < 0 then -sz else sz) ex := by
  rw [if_neg (by omega)]
  exact ⟨r, P, r1, r2, r3, p1, p2, p3, h⟩
theorem rz {a0 P r : Int} (ha : a0 = 0) (r1 : 0 ≤ r) (r2 : r * r ≤ a0 * 10 ^ P.toNat) : rW (a0 * 10 ^ P.toNat) r = 0 := by
  subst ha
  have : r = 0 := by
    false_or_by_contra
    have := sq_le (a := 1) (b := r) (by omega) (by omega)
    omega
  subst this
  unfold rW
  simp
def DrawI (n0 p0 n p : Int) : Prop := (n = 0 ∧ n0 = 0 ∧ p = p0) ∨ Strip p0 n0 6 n p
theorem draw_start {n0 p0 : Int} (h1 : 0 ≤ n0) (h2 : n0 < 1000000) : DrawI n0 p0 n0 p0 := by
  by_cases e : n0 = 0
  · exact .inl ⟨e, e, rfl⟩
  · exact .inr (strip_start (by omega) (by omega) (Int.le_of_lt h2))
theorem draw_turn {n0 p0 n p : Int} (h : DrawI n0 p0 n p) (h1 : 0 < n) (hm : Int.fmod n 10 = 0) : DrawI n0 p0 (Int.fdiv n 10) (p + 1) ∧ (Int.fdiv n 10).toNat < n.toNat := by
  rcases h with ⟨a, _, _⟩ | h
  · omega
  · exact ⟨.inr (strip_turn h hm).1, (strip_turn h hm).2⟩
theorem draw_facts {n0 p0 n p : Int} (h : DrawI n0 p0 n p) (h1 : 0 ≤ n0) (h2 : n0 < 1000000) : 0 ≤ n ∧ n < 1000000 ∧ p0 ≤ p ∧ p ≤ p0 + 6 := by
  rcases h with ⟨a, b, c⟩ | ⟨a, b, c, e, f⟩
  · omega
  · have : n * 1 ≤ n * 10 ^ (p - p0).toNat := Int.mul_le_mul_of_nonneg_left (by have := pow10_pos (p - p0); omega) (by omega)
    omega
def Drawn (f0 f1 : Int) : Prop := (f0 = 0 ∧ f1 = 0) ∨ (f0 ≠ 0 ∧ -1000000 < f0 ∧ f0 < 1000000 ∧ -6 ≤ f1 ∧ f1 ≤ 12)
theorem ebd {a1 d P : Int} (h1 : 1 ≤ d) (h2 : d ≤ 6) (h3 : -6 ≤ a1) (h4 : a1 ≤ 12) (h5 : 2 * d + 4 ≤ P) (h6 : P ≤ 2 * d + 5) : (-40 ≤ (a1 - P) / 2 ∧ (a1 - P) / 2 ≤ 40) ∧ -40 ≤ (a1 - P) / 2 - 1 ∧ (a1 - P) / 2 - 1 ≤ 40 := by
  refine ⟨⟨?_, ?_⟩, ?_, ?_⟩ <;> omega
theorem par2 {a1 d : Int} (h : ¬ (a1 - (2 * d + 4)) % 2 = 0) : (a1 - (2 * d + 4 + 1)) % 2 = 0 := by omega
end Mine
end
section
open PySem PySem.W PyProof.Rows PySem.Calls PyProof.V PySem.Spec
set_option maxRecDepth 100000
namespace Mine
theorem pow10_one (k : Int) : 1 ≤ (10 : Int) ^ k.toNat := by have := pow10_pos k; omega
theorem pow10_mil {k : Int} (h : k ≤ 6) : (10 : Int) ^ k.toNat ≤ 1000000 := pow10_le 6 h
section
variable {prog : Program} {w : World} {A : Around} {E : Value → Shared → Prop} {s : Shared} {h₀ : Heap} {L : Addr} {news : List (Addr × Obj)} {Q : Value → Shared → Prop}
theorem shaped2 (a b : Int) : SeqAt.shaped (.tuple [.int a, .int b]) = true := by
  simp [SeqAt.shaped, PyData.canLay0, PyData.canLayAll0, PyData.depth, PyData.depthAll]
theorem eq_t2 {x y : Addr} {a0 a1 b0 b1 : Int} {t u t' u' : Tok} {c c' : Nat} (N : News h₀ L s.heap news) (hx : (x, tup2 a0 t a1 u c) ∈ news) (hy : (y, tup2 b0 t' b1 u' c') ∈ news) (hu : A.units + 64 < cLine)
    (h : Q (.bool (decide (a0 = b0 ∧ a1 = b1))) s) : wpAny (model prog w) A (compareOp .Eq (.ref x) (.ref y)) Q E s := by
  refine eq_dataH (da := .tuple [.int a0, .int a1]) (db := .tuple [.int b0, .int b1]) (reads_tuple_at (News.get N hx) rfl rfl (.cons (.int _ _) (.cons (.int _ _) .nil))) (reads_tuple_at (News.get N hy) rfl rfl (.cons (.int _ _) (.cons (.int _ _) .nil))) (shaped2 _ _) (shaped2 _ _) hu ?_
  have e : PyData.eqv (.tuple [.int a0, .int a1]) (.tuple [.int b0, .int b1]) = decide (a0 = b0 ∧ a1 = b1) := by
    by_cases h0 : a0 = b0 <;> by_cases h1 : a1 = b1 <;> simp [PyData.eqv, PyData.eqvAll, h0, h1]
  rw [e]
  exact h
theorem ne_t2 {x y : Addr} {a0 a1 b0 b1 : Int} {t u t' u' : Tok} {c c' : Nat} (N : News h₀ L s.heap news) (hx : (x, tup2 a0 t a1 u c) ∈ news) (hy : (y, tup2 b0 t' b1 u' c') ∈ news) (hu : A.units + 64 < cLine)
    (h : Q (.bool (!decide (a0 = b0 ∧ a1 = b1))) s) : wpAny (model prog w) A (compareOp .NotEq (.ref x) (.ref y)) Q E s := by
  refine ne_dataH (da := .tuple [.int a0, .int a1]) (db := .tuple [.int b0, .int b1]) (reads_tuple_at (News.get N hx) rfl rfl (.cons (.int _ _) (.cons (.int _ _) .nil))) (reads_tuple_at (News.get N hy) rfl rfl (.cons (.int _ _) (.cons (.int _ _) .nil))) (shaped2 _ _) (shaped2 _ _) hu ?_
  have e : PyData.eqv (.tuple [.int a0, .int a1]) (.tuple [.int b0, .int b1]) = decide (a0 = b0 ∧ a1 = b1) := by
    by_cases h0 : a0 = b0 <;> by_cases h1 : a1 = b1 <;> simp [PyData.eqv, PyData.eqvAll, h0, h1]
  rw [e]
  exact h
end
end Mine
end
section
open PySem PySem.W PyProof.Rows PySem.Calls
set_option maxRecDepth 100000
namespace Mine
section
variable {w : World} {p : Program} {loose : List Str} {mean : ExcName → Option Value} {mg mb : Str → Option Value} {dp un : Nat} {gd : Option (List Code)} {cn : Str} {cs : Scope} {a : Addr} {ccd : Value} {cl : List (Str × Addr)} {outer : List Env} {A₀ : Around} {base h₀ : Heap} {L : Addr} {m : Str → Option Value} {s : Shared} {Q E : Value → Shared → Prop} {news : List (Addr × Obj)}
theorem news_drop3 {h₀ h : Heap} {L : Addr} {x y z : Addr × Obj} {l : List (Addr × Obj)} (N : News h₀ L h (x :: y :: z :: l)) : News h₀ L h (x :: l) := news_drop2 (news_drop2 N)
set_option maxHeartbeats 1000000 in
theorem d_div_any {a0 a1 b0 b1 d : Int} {x y : Addr} {t1 t2 t3 t4 t5 : Tok} {n1 n2 : Nat} (B : Below A₀ base outer h₀) (F : Fr h₀ L s.heap m) (X : (hd.heap_39 w.params).In h₀) (N : News h₀ L s.heap news) (T : Top p loose mean mg mb h₀) (hk : cs.kind = .function)
    (hx : (x, tup2 a0 t1 a1 t2 n1) ∈ news) (hy : (y, tup2 b0 t3 b1 t4 n2) ∈ news)
    (hd1 : 1 ≤ d) (hd2 : d ≤ 6) (ha0 : -1000000 < a0) (ha1 : a0 < 1000000) (hb0 : -1000000 < b0) (hb1 : b0 < 1000000) (hb : b0 ≠ 0)
    (hae1 : -6 ≤ a1) (hae2 : a1 ≤ 12) (hbe1 : -6 ≤ b1) (hbe2 : b1 ≤ 12)
    (hd : dp + 6 < recursionLimit) (hu : un + 90 < cLine)
    (hret : ∀ f0 f1 D u1 u2 n h' tk', (a0 = 0 → f0 = 0 ∧ f1 = 0) → (a0 ≠ 0 → DivIs a0 a1 b0 b1 d f0 f1) → Fr h₀ L h' m → News h₀ L h' ((D, tup2 f0 u1 f1 u2 n) :: news) → (∀ q ∈ news, q.1 < D) → Q (.ref D) { s with heap := h', toks := tk' }) :
    wpAny (model PySem.Challenge.rw_pq0158_01.row.prog w) (ktrTop dp un gd cn cs L a ccd cl outer) (call (.ref 72) [.ref x, .ref y, .int d t5]) Q E s := by
  w_top off
  k_with_none
  (k_with "call ref" => (k_here; k_dflt (refine' figures_c ?zyk1 ?zyk2 ?zyk3 ?zyk4 ?zyk5 ?zykK ?zykp ?zykd ?zyku ?_; (case zyk1 => k_asm); (case zyk2 => k_asm); (case zyk3 => k_asm); (case zyk4 => k_asm); (case zyk5 => k_asm); (case zykK => first | exact rfl | assumption); (case zykp => first | assumption | omega); (case zykd => ktr_room); (case zyku => ktr_units)); intro t9 h9 tk9 F9 N9; (try dsimp only); (try k_fold)))
  (k_with "call ref" => (k_here; k_dflt (refine' with_rest_c ?zyk1 ?zyk2 ?zyk3 ?zyk4 ?zyk5 ?zykK ?zykd ?zyku ?_; (case zyk1 => k_asm); (case zyk2 => k_asm); (case zyk3 => k_asm); (case zyk4 => k_asm); (case zyk5 => k_asm); (case zykK => first | exact rfl | assumption); (case zykd => ktr_room); (case zyku => ktr_units)); intro D9 u9 v9 n9 h9 tk9 F9 N9 l9; (try k_lt l9); (try dsimp only); (try k_fold)))
  (k_with "binaryOp FloorDiv int int" => (k_here; k_dflt (refine' floordiv_int ?zyhb ?_ (Or.inl (PyProof.noPylong_of_log2 (big_log ?zyh1 ?zyh2))); (case zyhb => omega); (case zyh1 => omega); (case zyh2 => omega))))
  (k_with "call builtin:abs" => ((with_reducible refine abs_ab ?_); intro _ _))
  (k_with "subscriptTail Name Constant ref int" => (k_here; (with_reducible show wpAny _ _ (subscriptTail _ _ (Value.ref _) (Value.int _ _)) _ _ _); (with_unfolding_all refine' t2_i ?zyN ?zyhm ?zyh0 ?zyh1 ?zyhv ?_ ?zyhs; (case zyN => k_asm); (case zyhm => with_reducible (first | assumption | exact List.mem_cons_self | (refine List.mem_cons_of_mem _ ?_; (first | assumption | exact List.mem_cons_self | (refine List.mem_cons_of_mem _ ?_; (first | assumption | exact List.mem_cons_self | (refine List.mem_cons_of_mem _ ?_; (first | assumption | exact List.mem_cons_self | (refine List.mem_cons_of_mem _ ?_; (first | assumption | exact List.mem_cons_self | (refine List.mem_cons_of_mem _ ?_; (first | assumption | exact List.mem_cons_self)))))))))))); (case zyh0 => decide); (case zyh1 => decide); (case zyhv => exact rfl); (case zyhs => with_unfolding_all rfl); k_whole)))
  (k_with "exec While Compare cons nil" => (exfalso; omega))
  (k_with "exec Raise some none" => (exfalso; omega))
  have hK : (PySem.Challenge.rw_pq0158_01 = PySem.Challenge.rw_pq0158_01 ∧ Mine.hd.heap_39 = Mine.hd.heap_39) := by
    k_fill
    exact ⟨rfl, rfl⟩
  clear hK
  have hab := ab_nonneg a0
  have hbb := ab_nonneg b0
  have hA6 : ab a0 < 1000000 := ab_lt ha0 ha1
  have hB6 : ab b0 < 1000000 := ab_lt hb0 hb1
  have hB0 : 0 < ab b0 := ab_pos hb
  have hfa := figN_pos (ab a0).toNat
  have hfb := figN_pos (ab b0).toNat
  have hfa6 : ((figN (ab a0).toNat : Nat) : Int) ≤ 6 := fig_le_of (k := 6) hab hA6 (by omega)
  have hfb6 : ((figN (ab b0).toNat : Nat) : Int) ≤ 6 := fig_le_of (k := 6) hbb hB6 (by omega)
  have hM : 0 ≤ (if ((figN (ab b0).toNat : Nat) : Int) - ((figN (ab a0).toNat : Nat) : Int) > 0 then ((figN (ab b0).toNat : Nat) : Int) - ((figN (ab a0).toNat : Nat) : Int) else 0) ∧ (if ((figN (ab b0).toNat : Nat) : Int) - ((figN (ab a0).toNat : Nat) : Int) > 0 then ((figN (ab b0).toNat : Nat) : Int) - ((figN (ab a0).toNat : Nat) : Int) else 0) ≤ 5 := by split <;> omega
  obtain ⟨hM1, hM2⟩ := hM
  refine wpAny_call ?_
  k_dflt ktr_enter
  (k_with "call ref" => (k_here; (with_reducible show wpAny _ _ (call (Value.ref 58) _) _ _ _); (by_cases hz : a0 = 0); (case' pos => (have hA0 : ab a0 = 0 := (by rw [hz]; unfold ab; rfl)); k_dflt (refine' made_zero ?yzk1 ?yzk2 ?yzk3 ?yzk4 ?yzk5 ?yzkK ?yzkp ?yzkq ?yzkd ?yzku ?_; (case yzk1 => k_asm); (case yzk2 => k_asm); (case yzk3 => k_asm); (case yzk4 => k_asm); (case yzk5 => k_asm); (case yzkK => first | exact rfl | assumption); (case yzkp => omega); (case yzkq => k_extra "mz"); (case yzkd => ktr_room); (case yzku => ktr_units)); intro D9 u9 v9 n9 h9 tk9 F9 N9 l9; (try k_lt l9); (try dsimp only); (try k_fold)); (case' neg => (have hA0 : 0 < ab a0 := ab_pos hz); (have hW := dW_pos hA0 hB0 hA6 hB6 hd1 hd2); k_dflt (refine' made_pos ?ypk1 ?ypk2 ?ypk3 ?ypk4 ?ypk5 ?ypkK ?ypkp ?ypkq ?ypm1 ?ypm2 ?ypm3 ?ypm4 ?ypkd ?ypku ?_; (case ypk1 => k_asm); (case ypk2 => k_asm); (case ypk3 => k_asm); (case ypk4 => k_asm); (case ypk5 => k_asm); (case ypkK => first | exact rfl | assumption); (case ypkp => omega); (case ypkq => omega); (case ypm1 => k_extra "m1"); (case ypm2 => k_extra "m2"); (case ypm3 => k_extra "m3"); (case ypm4 => k_extra "m3"); (case ypkd => ktr_room); (case ypku => ktr_units)); intro z9 x9 D9 u9 v9 n9 h9 tk9 M9 F9 N9 l9; (try k_lt l9); (try dsimp only); (try k_fold))))
  (k_with "mz" => (first | exact zW hA0 | exact zW' hA0))
  (k_with "m1" => (first | exact dm1 hA0 hB0 hA6 hB6 hd1 hd2 | exact dm1' hA0 hB0 hA6 hB6 hd1 hd2))
  (k_with "m2" => (first | exact dm2 hA0 hB0 hA6 hB6 hd1 hd2 | exact dm2' hA0 hB0 hA6 hB6 hd1 hd2))
  (k_with "m3" => (have hX := dX_bd (e := a1 - b1) hab hbb hA6 hB6 hd1 hd2 (by omega) (by omega); first | exact hX.1 | exact hX.2))
  k_steps
  all_goals ((rename _ ∧ _ ∧ AllLt _ _ => l1); (rename Fr _ _ _ _ => kF); (rename News _ _ _ _ => kN); first
    | exact hret _ _ _ _ _ _ _ _ (fun _ => ⟨rfl, rfl⟩) (fun h => absurd hz h) kF (news_drop3 kN) (allLt_all _ l1.2.2)
    | ((rename MadeIs _ _ _ _ _ => kM); exact hret _ _ _ _ _ _ _ _ (fun h => absurd h hz) (fun _ => div_fin1 hW (by assumption) kM) kF (news_drop3 kN) (allLt_all _ l1.2.2))
    | ((rename MadeIs _ _ _ _ _ => kM); exact hret _ _ _ _ _ _ _ _ (fun h => absurd h hz) (fun _ => div_fin2 hW (Bool.eq_false_iff.mp (by assumption)) kM) kF (news_drop3 kN) (allLt_all _ l1.2.2)))
end
end Mine
end
section
open PySem PySem.W PyProof.Rows PySem.Calls
set_option maxRecDepth 100000
namespace Mine
section
variable {w : World} {p : Program} {loose : List Str} {mean : ExcName → Option Value} {mg mb : Str → Option Value} {dp un : Nat} {gd : Option (List Code)} {cn : Str} {cs : Scope} {a : Addr} {ccd : Value} {cl : List (Str × Addr)} {outer : List Env} {A₀ : Around} {base h₀ : Heap} {L : Addr} {m : Str → Option Value} {s : Shared} {Q E : Value → Shared → Prop} {news : List (Addr × Obj)}
set_option maxHeartbeats 1000000 in
theorem d_root_any {a0 a1 d : Int} {x : Addr} {t1 t2 t5 : Tok} {n1 : Nat} (B : Below A₀ base outer h₀) (F : Fr h₀ L s.heap m) (X : (hd.heap_39 w.params).In h₀) (N : News h₀ L s.heap news) (T : Top p loose mean mg mb h₀) (hk : cs.kind = .function)
    (hx : (x, tup2 a0 t1 a1 t2 n1) ∈ news)
    (hd1 : 1 ≤ d) (hd2 : d ≤ 6) (ha : 0 ≤ a0) (ha1 : a0 < 1000000)
    (hae1 : -6 ≤ a1) (hae2 : a1 ≤ 12)
    (hd : dp + 6 < recursionLimit) (hu : un + 90 < cLine)
    (hret : ∀ f0 f1 D u1 u2 n h' tk', (a0 = 0 → f0 = 0 ∧ f1 = 0) → (0 < a0 → RootIs a0 a1 d f0 f1) → Fr h₀ L h' m → News h₀ L h' ((D, tup2 f0 u1 f1 u2 n) :: news) → (∀ q ∈ news, q.1 < D) → Q (.ref D) { s with heap := h', toks := tk' }) :
    wpAny (model PySem.Challenge.rw_pq0158_01.row.prog w) (ktrTop dp un gd cn cs L a ccd cl outer) (call (.ref 86) [.ref x, .int d t5]) Q E s := by
  w_top off
  k_with_none
  (k_with "call ref" => (k_here; k_dflt (refine' with_rest_c ?zyk1 ?zyk2 ?zyk3 ?zyk4 ?zyk5 ?zykK ?zykd ?zyku ?_; (case zyk1 => k_asm); (case zyk2 => k_asm); (case zyk3 => k_asm); (case zyk4 => k_asm); (case zyk5 => k_asm); (case zykK => first | exact rfl | assumption); (case zykd => ktr_room); (case zyku => ktr_units)); intro D9 u9 v9 n9 h9 tk9 F9 N9 l9; (try k_lt l9); (try dsimp only); (try k_fold)))
  (k_with "binaryOp FloorDiv int int" => (k_here; k_dflt (refine' floordiv_int ?zyhb ?_ (Or.inl (PyProof.noPylong_of_log2 (big_log ?zyh1 ?zyh2))); (case zyhb => omega); (case zyh1 => omega); (case zyh2 => omega))))
  (k_with "subscriptTail Name Constant ref int" => (k_here; (with_reducible show wpAny _ _ (subscriptTail _ _ (Value.ref _) (Value.int _ _)) _ _ _); (with_unfolding_all refine' t2_i ?zyN ?zyhm ?zyh0 ?zyh1 ?zyhv ?_ ?zyhs; (case zyN => k_asm); (case zyhm => with_reducible (first | assumption | exact List.mem_cons_self | (refine List.mem_cons_of_mem _ ?_; (first | assumption | exact List.mem_cons_self | (refine List.mem_cons_of_mem _ ?_; (first | assumption | exact List.mem_cons_self | (refine List.mem_cons_of_mem _ ?_; (first | assumption | exact List.mem_cons_self | (refine List.mem_cons_of_mem _ ?_; (first | assumption | exact List.mem_cons_self | (refine List.mem_cons_of_mem _ ?_; (first | assumption | exact List.mem_cons_self)))))))))))); (case zyh0 => decide); (case zyh1 => decide); (case zyhv => exact rfl); (case zyhs => with_unfolding_all rfl); k_whole)))
  (k_with "call ref" => (k_here; k_dflt (refine' root_of_c ?zyk1 ?zyk2 ?zyk3 ?zyk4 ?zyk5 ?zykK ?zykp ?zykq ?zykd ?zyku ?_; (case zyk1 => k_asm); (case zyk2 => k_asm); (case zyk3 => k_asm); (case zyk4 => k_asm); (case zyk5 => k_asm); (case zykK => first | exact rfl | assumption); (case zykp => k_extra "r1"); (case zykq => k_extra "r2"); (case zykd => ktr_room); (case zyku => ktr_units)); k_extra "r3"; (try dsimp only); (try k_fold)))
  (k_with "exec While Compare cons nil" => (exfalso; omega))
  (k_with "exec Raise some none" => (exfalso; omega))
  have hK : (PySem.Challenge.rw_pq0158_01 = PySem.Challenge.rw_pq0158_01 ∧ Mine.hd.heap_39 = Mine.hd.heap_39) := by
    k_fill
    exact ⟨rfl, rfl⟩
  clear hK
  refine wpAny_call ?_
  k_dflt ktr_enter
  (k_with "call ref" => (k_here; (with_reducible show wpAny _ _ (call (Value.ref 58) _) _ _ _); (by_cases hz : a0 = 0); (case' pos => k_dflt (refine' made_zero ?yzk1 ?yzk2 ?yzk3 ?yzk4 ?yzk5 ?yzkK ?yzkp ?yzkq ?yzkd ?yzku ?_; (case yzk1 => k_asm); (case yzk2 => k_asm); (case yzk3 => k_asm); (case yzk4 => k_asm); (case yzk5 => k_asm); (case yzkK => first | exact rfl | assumption); (case yzkp => omega); (case yzkq => k_extra "mz"); (case yzkd => ktr_room); (case yzku => ktr_units)); intro D9 u9 v9 n9 h9 tk9 F9 N9 l9; (try k_lt l9); (try dsimp only); (try k_fold)); (case' neg => (have ha0 : 0 < a0 := (by omega)); k_dflt (refine' made_pos ?ypk1 ?ypk2 ?ypk3 ?ypk4 ?ypk5 ?ypkK ?ypkp ?ypkq ?ypm1 ?ypm2 ?ypm3 ?ypm4 ?ypkd ?ypku ?_; (case ypk1 => k_asm); (case ypk2 => k_asm); (case ypk3 => k_asm); (case ypk4 => k_asm); (case ypk5 => k_asm); (case ypkK => first | exact rfl | assumption); (case ypkp => omega); (case ypkq => omega); (case ypm1 => k_extra "m1"); (case ypm2 => k_extra "m2"); (case ypm3 => k_extra "m3"); (case ypm4 => k_extra "m3"); (case ypkd => ktr_room); (case ypku => ktr_units)); intro z9 x9 D9 u9 v9 n9 h9 tk9 M9 F9 N9 l9; (try k_lt l9); (try dsimp only); (try k_fold))))
  (k_with "mz" => (exact rz hz r1 r2))
  (k_with "r1" => (exact Int.mul_nonneg (by omega) (Int.le_of_lt (pow10_pos _))))
  (k_with "r2" => (by_cases hz : a0 = 0; (rw [hz, Int.zero_mul]; decide); have ha0 : 0 < a0 := (by omega); have hS := root_S (P := 2 * d + 4) ha0 ha1 hd1 hd2 (by omega) (by omega); have hS2 := root_S (P := 2 * d + 4 + 1) ha0 ha1 hd1 hd2 (by omega) (by omega); omega))
  (k_with "r3" => (intro r9 tr9 h9 tk9 r1 r2 r3 F9 N9; have r4 : r9 < 10 ^ 15 := root_small r1 r2 (by by_cases hz : a0 = 0; (rw [hz, Int.zero_mul]; decide); exact (root_S (by omega) ha1 hd1 hd2 (by omega) (by omega)).1)))
  (k_with "m1" => (exact (rW_bd ha0 ha1 hd1 hd2 (by omega) (by omega) r1 r2 r3).2.1))
  (k_with "m2" => (exact (rW_bd ha0 ha1 hd1 hd2 (by omega) (by omega) r1 r2 r3).2.2))
  (k_with "m3" => ((have hE := ebd (P := 2 * d + 4) hd1 hd2 hae1 hae2 (Int.le_refl _) (by omega)); (have hE2 := ebd (P := 2 * d + 4 + 1) hd1 hd2 hae1 hae2 (by omega) (by omega)); simp only [fdiv2]; split <;> first | exact hE.1.1 | exact hE.1.2 | exact hE.2.1 | exact hE.2.2 | exact hE2.1.1 | exact hE2.1.2 | exact hE2.2.1 | exact hE2.2.2 | omega))
  k_steps
  all_goals ((rename _ ∧ AllLt _ _ => l1); (rename Fr _ _ _ _ => kF); (rename News _ _ _ _ => kN); first
    | exact hret _ _ _ _ _ _ _ _ (fun _ => ⟨rfl, rfl⟩) (fun h => absurd h (by omega)) kF (news_drop2 kN) (allLt_all _ l1.2)
    | ((rename MadeIs _ _ _ _ _ => kM); refine hret _ _ _ _ _ _ _ _ (fun h => absurd h hz) (fun _ => root_fin (rW_bd ha0 ha1 hd1 hd2 (by omega) (by omega) r1 r2 r3).1 r1 r2 r3 (by omega) (by omega) ?_ kM) kF (news_drop2 kN) (allLt_all _ l1.2); first | assumption | (rw [fmod2]; simp only [fmod2] at *; first | exact par2 (by assumption) | omega)))
end
end Mine
end
section
open PySem PySem.W PyProof.Rows PySem.Calls
set_option maxRecDepth 100000
namespace Mine
section
variable {w : World} {p : Program} {loose : List Str} {mean : ExcName → Option Value} {mg mb : Str → Option Value} {dp un : Nat} {gd : Option (List Code)} {cn : Str} {cs : Scope} {a : Addr} {ccd : Value} {cl : List (Str × Addr)} {outer : List Env} {A₀ : Around} {base h₀ : Heap} {L : Addr} {m : Str → Option Value} {s : Shared} {Q E : Value → Shared → Prop} {news : List (Addr × Obj)}
set_option maxHeartbeats 1000000 in
theorem drawn_c {bx : Addr} {x y : Int} {t1 t2 t3 : Tok} {k : Nat} (B : Below A₀ base outer h₀) (F : Fr h₀ L s.heap m) (X : (hd.heap_39 w.params).In h₀) (N : News h₀ L s.heap ((bx, box2 x t1 y t2 k) :: news)) (T : Top p loose mean mg mb h₀) (hk : cs.kind = .function)
    (hne : ∀ p ∈ news, p.1 ≠ bx)
    (hd : dp + 6 < recursionLimit) (hu : un + 90 < cLine)
    (hret : ∀ f0 f1 x' y' tx ty D u1 u2 n h' tk', Drawn f0 f1 → Fr h₀ L h' m → News h₀ L h' ((D, tup2 f0 u1 f1 u2 n) :: (bx, box2 x' tx y' ty k) :: news) → (∀ q ∈ ((bx, box2 x' tx y' ty k) :: news), q.1 < D) → Q (.ref D) { s with heap := h', toks := tk' }) :
    wpAny (model PySem.Challenge.rw_pq0158_01.row.prog w) (ktrTop dp un gd cn cs L a ccd cl outer) (call (.ref 107) [.ref bx, .int 6 t3]) Q E s := by
  w_top off
  k_with_none
  (k_with "binaryOp FloorDiv int int" => (k_here; k_dflt (refine' floordiv_int ?zyhb ?_ (Or.inl (PyProof.noPylong_of_log2 (big_log ?zyh1 ?zyh2))); (case zyhb => omega); (case zyh1 => omega); (case zyh2 => omega))))
  (k_with "KwdEnd1" => (k_dflt (refine' KwdEnd1.intro ?zye1 ?zye2 ?zye3 ?zye4 ?zye5 ?zye6 ?zye7 ?zye8 ?zye9; (case zye1 => assumption); (case zye2 => assumption); (case zye4 => with_unfolding_all rfl); (case zye6 => with_unfolding_all rfl); (case zye3 => k_sub); (case zye5 => exact ⟨_, rfl⟩); (case zye7 => k_extra "inv"); (case zye8 => k_extra "less"); (case zye9 => kwd_same1))))
  (k_with "call ref" => (k_here; k_dflt (refine' take_c ?zyk1 ?zyk2 ?zyk3 ?zyk4 ?zyk5 ?zykK ?zyne ?zyt1 ?zyt2 ?zykd ?zyku ?_; (case zyk1 => k_asm); (case zyk2 => k_asm); (case zyk3 => k_asm); (case zyk4 => k_asm); (case zyk5 => k_asm); (case zykK => first | exact rfl | assumption); (case zyne => assumption); (case zyt1 => first | omega | exact pow10_one _); (case zyt2 => first | omega | exact pow10_mil (by omega)); (case zykd => ktr_room); (case zyku => ktr_units)); intro v9 x9 y9 tv9 tx9 ty9 h9 tk9 a9 b9 F9 N9; (try (have c9 := Int.lt_of_lt_of_le b9 (pow10_mil (by omega)))); (try dsimp only); (try k_fold)))
  have hK : (PySem.Challenge.rw_pq0158_01 = PySem.Challenge.rw_pq0158_01 ∧ Mine.hd.heap_39 = Mine.hd.heap_39) := by
    k_fill
    exact ⟨rfl, rfl⟩
  clear hK
  refine wpAny_call ?_
  k_dflt ktr_enter
  (k_with "exec While BoolOp cons nil" => (k_here; (rename Fr _ _ _ _ => lF'); (rename News _ _ _ _ => lN'); (with_unfolding_all refine' kwd_while1 (δ := Int) (Rel := fun _ v z => ∃ u, v = Value.int z u) (y := Str.ofString "number") (z := Str.ofString "power") [] Int.toNat (fun n0 p0 sz ex => DrawI n0 p0 sz ex) lF' lN' (by rfl) (by rfl) ⟨_, rfl⟩ (draw_start (by omega) (by omega)) ?_); clear lF' lN'; rintro v' sz ex tx u' h' tk' ⟨us, rfl⟩ hI F' N'; (have hI2 := draw_facts hI (by omega) (by omega)); (obtain ⟨b1, b2, b3, b4⟩ := hI2); (try k_fold)))
  (k_with "inv" => (have hT := draw_turn hI (by omega) (by assumption); exact hT.1))
  (k_with "less" => (have hT := draw_turn hI (by omega) (by assumption); exact hT.2))
  k_steps
  all_goals ((rename _ ∧ AllLt _ _ => l1); (rename Fr _ _ _ _ => kF); (rename News _ _ _ _ => kN))
  all_goals first | exact hret _ _ _ _ _ _ _ _ _ _ _ _ (.inl ⟨rfl, rfl⟩) kF kN (allLt_all (_ :: _) l1) | exact hret _ _ _ _ _ _ _ _ _ _ _ _ (.inr ⟨by omega, by omega, by omega, by omega, by omega⟩) kF kN (allLt_all (_ :: _) l1)
end
end Mine
end
section
open PySem PySem.W PyProof.Rows PySem.Calls
set_option maxRecDepth 100000
namespace Mine
section
variable {w : World} {p : Program} {loose : List Str} {mean : ExcName → Option Value} {mg mb : Str → Option Value} {dp un : Nat} {gd : Option (List Code)} {cn : Str} {cs : Scope} {a : Addr} {ccd : Value} {cl : List (Str × Addr)} {outer : List Env} {A₀ : Around} {base h₀ : Heap} {L : Addr} {m : Str → Option Value} {s : Shared} {Q E : Value → Shared → Prop} {news : List (Addr × Obj)}
set_option maxHeartbeats 600000 in
theorem shape_c {f0 f1 d : Int} {x : Addr} {t1 t2 t5 : Tok} {n1 : Nat} (B : Below A₀ base outer h₀) (F : Fr h₀ L s.heap m) (X : (hd.heap_39 w.params).In h₀) (N : News h₀ L s.heap news) (T : Top p loose mean mg mb h₀) (hk : cs.kind = .function)
    (hx : (x, tup2 f0 t1 f1 t2 n1) ∈ news)
    (hd1 : 1 ≤ d) (hd2 : d ≤ 6) (hf0 : f0 ≠ 0) (hf1 : Int.fmod f0 10 ≠ 0) (hf2 : 0 < ab f0) (hf3 : ab f0 < 10 ^ d.toNat)
    (hd : dp + 6 < recursionLimit) (hu : un + 90 < cLine)
    (hret : ∀ h' tk', Fr h₀ L h' m → News h₀ L h' news → Q (.bool true) { s with heap := h', toks := tk' }) :
    wpAny (model PySem.Challenge.rw_pq0158_01.row.prog w) (ktrTop dp un gd cn cs L a ccd cl outer) (call (.ref 121) [.ref x, .int d t5]) Q E s := by
  w_top off
  k_with_none
  (k_with "binaryOp FloorDiv int int" => (k_here; k_dflt (refine' floordiv_int ?zyhb ?_ (Or.inl (PyProof.noPylong_of_log2 (big_log ?zyh1 ?zyh2))); (case zyhb => omega); (case zyh1 => omega); (case zyh2 => omega))))
  (k_with "call builtin:abs" => ((with_reducible refine abs_ab ?_); intro _ _))
  (k_with "subscriptTail Name Constant ref int" => (k_here; (with_reducible show wpAny _ _ (subscriptTail _ _ (Value.ref _) (Value.int _ _)) _ _ _); (with_unfolding_all refine' t2_i ?zyN ?zyhm ?zyh0 ?zyh1 ?zyhv ?_ ?zyhs; (case zyN => k_asm); (case zyhm => with_reducible (first | assumption | exact List.mem_cons_self | (refine List.mem_cons_of_mem _ ?_; (first | assumption | exact List.mem_cons_self | (refine List.mem_cons_of_mem _ ?_; (first | assumption | exact List.mem_cons_self | (refine List.mem_cons_of_mem _ ?_; (first | assumption | exact List.mem_cons_self | (refine List.mem_cons_of_mem _ ?_; (first | assumption | exact List.mem_cons_self | (refine List.mem_cons_of_mem _ ?_; (first | assumption | exact List.mem_cons_self)))))))))))); (case zyh0 => decide); (case zyh1 => decide); (case zyhv => exact rfl); (case zyhs => with_unfolding_all rfl); k_whole)))
  (k_with "compareOp Eq ref ref" => (k_here; (with_reducible show wpAny _ _ (compareOp _ (Value.ref _) (Value.ref _)) _ _ _); (with_unfolding_all refine' eq_t2 ?zyN ?zyhx ?zyhy ?zyhu ?_; (case zyN => k_asm); (case zyhx => with_reducible (first | assumption | exact List.mem_cons_self | (refine List.mem_cons_of_mem _ ?_; (first | assumption | exact List.mem_cons_self | (refine List.mem_cons_of_mem _ ?_; (first | assumption | exact List.mem_cons_self | (refine List.mem_cons_of_mem _ ?_; (first | assumption | exact List.mem_cons_self | (refine List.mem_cons_of_mem _ ?_; (first | assumption | exact List.mem_cons_self | (refine List.mem_cons_of_mem _ ?_; (first | assumption | exact List.mem_cons_self)))))))))))); (case zyhy => with_reducible (first | assumption | exact List.mem_cons_self | (refine List.mem_cons_of_mem _ ?_; (first | assumption | exact List.mem_cons_self | (refine List.mem_cons_of_mem _ ?_; (first | assumption | exact List.mem_cons_self | (refine List.mem_cons_of_mem _ ?_; (first | assumption | exact List.mem_cons_self | (refine List.mem_cons_of_mem _ ?_; (first | assumption | exact List.mem_cons_self | (refine List.mem_cons_of_mem _ ?_; (first | assumption | exact List.mem_cons_self)))))))))))); (case zyhu => ktr_units); k_whole)))
  (k_with "compareOp NotEq ref ref" => (k_here; (with_reducible show wpAny _ _ (compareOp _ (Value.ref _) (Value.ref _)) _ _ _); (with_unfolding_all refine' ne_t2 ?zyN ?zyhx ?zyhy ?zyhu ?_; (case zyN => k_asm); (case zyhx => with_reducible (first | assumption | exact List.mem_cons_self | (refine List.mem_cons_of_mem _ ?_; (first | assumption | exact List.mem_cons_self | (refine List.mem_cons_of_mem _ ?_; (first | assumption | exact List.mem_cons_self | (refine List.mem_cons_of_mem _ ?_; (first | assumption | exact List.mem_cons_self | (refine List.mem_cons_of_mem _ ?_; (first | assumption | exact List.mem_cons_self | (refine List.mem_cons_of_mem _ ?_; (first | assumption | exact List.mem_cons_self)))))))))))); (case zyhy => with_reducible (first | assumption | exact List.mem_cons_self | (refine List.mem_cons_of_mem _ ?_; (first | assumption | exact List.mem_cons_self | (refine List.mem_cons_of_mem _ ?_; (first | assumption | exact List.mem_cons_self | (refine List.mem_cons_of_mem _ ?_; (first | assumption | exact List.mem_cons_self | (refine List.mem_cons_of_mem _ ?_; (first | assumption | exact List.mem_cons_self | (refine List.mem_cons_of_mem _ ?_; (first | assumption | exact List.mem_cons_self)))))))))))); (case zyhu => ktr_units); k_whole)))
  have hK : (PySem.Challenge.rw_pq0158_01 = PySem.Challenge.rw_pq0158_01 ∧ Mine.hd.heap_39 = Mine.hd.heap_39) := by
    k_fill
    exact ⟨rfl, rfl⟩
  clear hK
  refine wpAny_call ?_
  k_dflt ktr_enter
  k_steps
  · (rename Fr _ _ _ _ => kF); (rename News _ _ _ _ => kN)
    rw [decide_eq_true hf3]
    exact hret _ _ kF (cb_drop kN fun q hq => .tail _ hq)
  · exact absurd (by assumption) hf1
end
end Mine
end
section
namespace Mine
theorem int_ediv_facts {W U : Int} (hU : 0 < U) : W = Int.fdiv W U * U + Int.fmod W U ∧ 0 ≤ Int.fmod W U ∧ Int.fmod W U < U := by
  rw [Int.fdiv_eq_ediv_of_nonneg _ (by omega), Int.fmod_eq_emod_of_nonneg _ (by omega)]
  have h1 := Int.mul_ediv_add_emod W U
  have h2 := Int.emod_nonneg W (show U ≠ 0 by omega)
  have h3 := Int.emod_lt_of_pos W hU
  rw [Int.mul_comm] at h1
  omega
theorem ex1 (F U : Int) : (2 * F - 1) * U = 2 * (F * U) - U := by grind
theorem ex2 (F U : Int) : (2 * F + 1) * U = 2 * (F * U) + U := by grind
theorem ex3 (F U : Int) : (2 * (F + 1) - 1) * U = 2 * (F * U) + U := by grind
theorem ex4 (F U : Int) : (2 * (F + 1) + 1) * U = 2 * (F * U) + 3 * U := by grind
theorem tn1 {k : Int} (h : 0 ≤ k) : (k + 1).toNat = k.toNat + 1 := Int.toNat_add h (by decide)
theorem tn2 {k : Int} (h : 0 ≤ k) : (k + 2).toNat = k.toNat + 2 := Int.toNat_add h (by decide)
theorem tnp {k : Int} (h : 2 ≤ k) : k.toNat = (k - 1).toNat + 1 := by
  rw [← tn1 (Int.sub_nonneg_of_le (Int.le_trans (by decide) h)), Int.sub_add_cancel]
theorem tnd {d : Int} (h : 1 ≤ d) : (d - 1).toNat + 1 = d.toNat := by
  rw [← tn1 (Int.sub_nonneg_of_le h), Int.sub_add_cancel]
theorem eRl {f : Nat} {d : Int} (h1 : 1 ≤ d) (h2 : d < (f : Int)) : f - ((f : Int) - d).toNat = d.toNat := by omega
theorem round_exact {W k : Int} (hk : 1 ≤ k) : (2 * rnd W k - 1) * 10 ^ k.toNat < 2 * W + 1 ∧ 2 * W ≤ (2 * rnd W k + 1) * 10 ^ k.toNat ∧ ((2 * rnd W k - 1) * 10 ^ k.toNat = 2 * W → rnd W k % 2 = 0) ∧ (2 * W = (2 * rnd W k + 1) * 10 ^ k.toNat → rnd W k % 2 = 0) := by
  have hU := pow10_pos k
  obtain ⟨f1, f2, f3⟩ := int_ediv_facts (W := W) hU
  unfold rnd
  simp only [fmod2]
  generalize Int.fdiv W (10 ^ k.toNat) = F at *
  generalize Int.fmod W (10 ^ k.toNat) = r at *
  generalize (10 : Int) ^ k.toNat = U at *
  split
  · rw [ex3, ex4]
    generalize F * U = FU at *
    exact ⟨by omega, by omega, fun h => by omega, fun h => by omega⟩
  · rw [ex1, ex2]
    generalize F * U = FU at *
    exact ⟨by omega, by omega, fun h => by omega, fun h => by omega⟩
theorem round_sticky {q k : Int} (hk : 2 ≤ k) : (2 * rnd (10 * q + 1) k - 1) * 10 ^ k.toNat ≤ 2 * (10 * q) ∧ 2 * (10 * q + 10) ≤ (2 * rnd (10 * q + 1) k + 1) * 10 ^ k.toNat := by
  have hU := pow10_pos k
  have hV := pow10_pos (k - 2)
  have hUV : (10 : Int) ^ k.toNat = 100 * 10 ^ (k - 2).toNat := by
    have e : k.toNat = (k - 2).toNat + 2 := by rw [← tn2 (Int.sub_nonneg_of_le hk), Int.sub_add_cancel]
    rw [e, Int.pow_add, Int.mul_comm]
    rfl
  obtain ⟨f1, f2, f3⟩ := int_ediv_facts (W := 10 * q + 1) hU
  unfold rnd
  simp only [fmod2]
  have hFU : Int.fdiv (10 * q + 1) (10 ^ k.toNat) * 10 ^ k.toNat = 100 * (Int.fdiv (10 * q + 1) (10 ^ k.toNat) * 10 ^ (k - 2).toNat) := by
    conv => lhs; rw [hUV]
    conv => rhs; rw [hUV]
    grind
  generalize Int.fdiv (10 * q + 1) (10 ^ k.toNat) = F at *
  generalize Int.fmod (10 * q + 1) (10 ^ k.toNat) = r at *
  generalize (10 : Int) ^ k.toNat = U at *
  generalize (10 : Int) ^ (k - 2).toNat = V at *
  generalize hFV : F * V = FV at *
  split
  · rw [ex3, ex4]
    generalize F * U = FU at *
    exact ⟨by omega, by omega⟩
  · rw [ex1, ex2]
    generalize F * U = FU at *
    exact ⟨by omega, by omega⟩
theorem rnd_low {W k d : Int} (hW : 0 < W) (hk : 1 ≤ k) (hd : 1 ≤ d) (hn : ((figN W.toNat : Nat) : Int) = k + d) : (10 : Int) ^ (d - 1).toNat * 10 ^ k.toNat ≤ W ∧ 10 ^ (d - 1).toNat ≤ rnd W k := by
  have hU := pow10_pos k
  have h1 := fig_le_int (n := W) (by omega)
  have e : figN W.toNat - 1 = (d - 1).toNat + k.toNat := by omega
  rw [e, Int.pow_add] at h1
  refine ⟨h1, ?_⟩
  have h3 : 10 ^ (d - 1).toNat ≤ Int.fdiv W (10 ^ k.toNat) := by
    rw [Int.fdiv_eq_ediv_of_nonneg _ (Int.le_of_lt hU)]
    exact (Int.le_ediv_iff_mul_le hU).mpr h1
  unfold rnd; split <;> omega
theorem pow10_lt_pow {i j : Nat} (h : i < j) : (10 : Int) ^ i * 10 ≤ 10 ^ j := by
  rw [← Int.pow_succ]
  exact pow10_mono h
theorem grown_is {c e d sz ex size power : Int} (hc : 0 < ab c) (hd : 1 ≤ d) (hn : d < (figN (ab c).toNat : Nat)) (h : MadeIs c e d sz ex) (g : Grown sz ex d size power) :
    (size = rnd (ab c) ((figN (ab c).toNat : Nat) - d) ∧ power = e + ((figN (ab c).toNat : Nat) - d)) ∨ (size * 10 = rnd (ab c) ((figN (ab c).toNat : Nat) - d) ∧ rnd (ab c) ((figN (ab c).toNat : Nat) - d) = 10 ^ d.toNat ∧ power = e + ((figN (ab c).toNat : Nat) - d) + 1) := by
  obtain ⟨h1, h2, h3, h4⟩ := h
  obtain ⟨⟨g1, g2, i, g3, g4⟩, g5⟩ := g
  have hR := rnd_le (n := ab c) (k := (figN (ab c).toNat : Nat) - d) (by omega) (by omega) (by omega)
  have eR : figN (ab c).toNat - (((figN (ab c).toNat : Nat) : Int) - d).toNat = d.toNat := eRl hd hn
  rw [eR] at hR
  have hL := (rnd_low (W := ab c) (k := (figN (ab c).toNat : Nat) - d) (d := d) hc (by omega) hd (by omega)).2
  have hdd : (10 : Int) ^ (d - 1).toNat * 10 = 10 ^ d.toNat := by
    rw [← Int.pow_succ]; congr 1; exact tnd hd
  generalize hk : ((figN (ab c).toNat : Nat) : Int) - d = k at *
  generalize rnd (ab c) k = R at *
  generalize hj : (ex - (e + k)).toNat = j at *
  have hjj : (j : Int) = ex - (e + k) := by omega
  have mulle : ∀ {a b : Int}, a ≤ b → sz * a ≤ sz * b := fun h => Int.mul_le_mul_of_nonneg_left h (by omega)
  have upi : ∀ {a b : Nat}, a < b → sz * 10 ^ a * 10 ≤ sz * 10 ^ b := fun h => by
    rw [Int.mul_assoc]; exact mulle (pow10_lt_pow h)
  rcases Nat.lt_trichotomy i j with q | q | q
  · have := upi q
    right
    rcases Nat.lt_or_ge (i + 1) j with z | z
    · have := upi z
      rw [Int.pow_succ, ← Int.mul_assoc] at this
      omega
    · have e1 : j = i + 1 := by omega
      subst e1
      rw [Int.pow_succ, ← Int.mul_assoc] at h4
      exact ⟨by omega, by omega, by omega⟩
  · subst q
    left
    exact ⟨by omega, by omega⟩
  · have := upi q
    omega
theorem made_lt {c e d sz ex : Int} (hc : 0 < ab c) (hd : 1 ≤ d) (hn : d < (figN (ab c).toNat : Nat)) (h : MadeIs c e d sz ex) : 0 < sz ∧ sz < 10 ^ d.toNat ∧ sz % 10 ≠ 0 := by
  obtain ⟨h1, h2, h3, h4⟩ := h
  have hR := rnd_le (n := ab c) (k := (figN (ab c).toNat : Nat) - d) (by omega) (by omega) (by omega)
  have eR : figN (ab c).toNat - (((figN (ab c).toNat : Nat) : Int) - d).toNat = d.toNat := eRl hd hn
  rw [eR] at hR
  rw [fmod10] at h2
  have hdd : (10 : Int) ^ (d - 1).toNat * 10 = 10 ^ d.toNat := by
    rw [← Int.pow_succ]; congr 1; exact tnd hd
  have : sz * 1 ≤ sz * 10 ^ (ex - (e + (((figN (ab c).toNat : Nat) : Int) - d))).toNat := Int.mul_le_mul_of_nonneg_left (by have := pow10_pos (ex - (e + (((figN (ab c).toNat : Nat) : Int) - d))); omega) (by omega)
  refine ⟨h1, ?_, h2⟩
  omega
theorem scale {A B P K s : Int} (h : s = K - P) (hP : 0 ≤ P) (hK : 0 ≤ K) : ∃ sc, 0 < sc ∧ (A * 10 ^ (if 0 - s > 0 then 0 - s else 0).toNat) * sc = A * 10 ^ P.toNat ∧ (B * 10 ^ (if s > 0 then s else 0).toNat) * sc = B * 10 ^ K.toNat := by
  by_cases hs : s > 0
  · refine ⟨10 ^ P.toNat, pow10_pos P, ?_, ?_⟩
    · rw [if_neg (by omega)]; simp
    · rw [if_pos hs, Int.mul_assoc, ← Int.pow_add]
      rw [← Int.toNat_add (Int.le_of_lt hs) hP, show s + P = K by omega]
  · refine ⟨10 ^ K.toNat, pow10_pos K, ?_, ?_⟩
    · by_cases z : 0 - s > 0
      · rw [if_pos z, Int.mul_assoc, ← Int.pow_add]
        rw [← Int.toNat_add (Int.le_of_lt z) hK, show 0 - s + K = P by omega]
      · rw [if_neg z]
        have : K = P := by omega
        subst this
        simp
    · rw [if_neg hs]; simp
end Mine
end
section
namespace Mine
def mx (s : Int) : Int := if s > 0 then s else 0
theorem gap_sc (H V size sc : Int) : (2 * (H - size * V)) * sc = 2 * (H * sc) - 2 * (size * (V * sc)) := by grind
theorem t10 (B : Int) (k : Int) (hk : 0 ≤ k) : B * 10 ^ (k + 1).toNat = 10 * (B * 10 ^ k.toNat) := by
  rw [tn1 hk, Int.pow_succ]
  grind
theorem div_core {A B P k d size s N R T : Int} (hB : 0 < B) (hP : 0 ≤ P) (hk : 0 ≤ k) (hT : T = B * 10 ^ k.toNat) (hN : N = A * 10 ^ P.toNat)
    (h1 : 2 * (R * T) - T ≤ 2 * N) (h2 : 2 * N ≤ 2 * (R * T) + T) (h3 : 2 * (R * T) - T = 2 * N → R % 2 = 0) (h4 : 2 * N = 2 * (R * T) + T → R % 2 = 0) (h5 : R = 10 ^ (d - 1).toNat → R * T ≤ N)
    (hc : (size = R ∧ s = k - P) ∨ (size * 10 = R ∧ size = 10 ^ (d - 1).toNat ∧ s = k + 1 - P)) :
    (size = 10 ^ (d - 1).toNat → 2 * (A * 10 ^ (if 0 - s > 0 then 0 - s else 0).toNat - size * (B * 10 ^ (if s > 0 then s else 0).toNat)) < 0 → 0 - 10 * (2 * (A * 10 ^ (if 0 - s > 0 then 0 - s else 0).toNat - size * (B * 10 ^ (if s > 0 then s else 0).toNat))) ≤ B * 10 ^ (if s > 0 then s else 0).toNat) ∧
    (¬ (size = 10 ^ (d - 1).toNat ∧ 2 * (A * 10 ^ (if 0 - s > 0 then 0 - s else 0).toNat - size * (B * 10 ^ (if s > 0 then s else 0).toNat)) < 0) → ab (2 * (A * 10 ^ (if 0 - s > 0 then 0 - s else 0).toNat - size * (B * 10 ^ (if s > 0 then s else 0).toNat))) < B * 10 ^ (if s > 0 then s else 0).toNat ∨ (ab (2 * (A * 10 ^ (if 0 - s > 0 then 0 - s else 0).toNat - size * (B * 10 ^ (if s > 0 then s else 0).toNat))) = B * 10 ^ (if s > 0 then s else 0).toNat ∧ Int.fmod size 2 = 0)) := by
  have hTpos : 0 < T := by rw [hT]; exact Int.mul_pos hB (pow10_pos k)
  rw [fmod2]
  rcases hc with ⟨c1, c2⟩ | ⟨c1, c2, c3⟩
  · obtain ⟨sc, p, e1, e2⟩ := scale (A := A) (B := B) c2 hP hk
    rw [← hT] at e2
    rw [← hN] at e1
    generalize A * 10 ^ (if 0 - s > 0 then 0 - s else 0).toNat = H at *
    generalize B * 10 ^ (if s > 0 then s else 0).toNat = V at *
    have eg := gap_sc H V size sc
    rw [e1, e2, c1] at eg
    rw [c1]
    generalize 2 * (H - R * V) = gap at *
    generalize R * T = RT at *
    have z1 : gap ≤ V := Int.le_of_mul_le_mul_right (a := sc) (by omega) p
    have z2 : -gap ≤ V := Int.le_of_mul_le_mul_right (a := sc) (by rw [Int.neg_mul]; omega) p
    have z3 : gap = V → R % 2 = 0 := fun h => h4 (by rw [h] at eg; omega)
    have z4 : -gap = V → R % 2 = 0 := fun h => h3 (by
      have : gap = -V := by omega
      rw [this, Int.neg_mul] at eg; omega)
    refine ⟨fun h h' => ?_, fun _ => ?_⟩
    · have := h5 h
      have : gap * sc < 0 := Int.mul_neg_of_neg_of_pos h' p
      omega
    · unfold ab
      split <;> omega
  · obtain ⟨sc, p, e1, e2⟩ := scale (A := A) (B := B) c3 hP (by omega)
    rw [t10 B k hk, ← hT] at e2
    rw [← hN] at e1
    generalize A * 10 ^ (if 0 - s > 0 then 0 - s else 0).toNat = H at *
    generalize B * 10 ^ (if s > 0 then s else 0).toNat = V at *
    have eg := gap_sc H V size sc
    rw [e1, e2] at eg
    have eR : size * (10 * T) = R * T := by rw [← c1]; grind
    rw [eR] at eg
    generalize 2 * (H - size * V) = gap at *
    generalize R * T = RT at *
    have z1 : gap < V := Int.lt_of_mul_lt_mul_right (a := sc) (by omega) (Int.le_of_lt p)
    have z2 : 0 - 10 * gap ≤ V := Int.le_of_mul_le_mul_right (a := sc) (by rw [Int.sub_mul, Int.mul_assoc]; omega) p
    refine ⟨fun h h' => z2, fun h => ?_⟩
    left
    unfold ab
    split <;> omega
theorem br1 (R B U : Int) : 2 * (R * (B * U)) - B * U = ((2 * R - 1) * U) * B := by grind
theorem br2 (R B U : Int) : 2 * (R * (B * U)) + B * U = ((2 * R + 1) * U) * B := by grind
theorem bridge_exact {W B U R N : Int} (hB : 0 < B) (eN : N = W * B) (r1 : (2 * R - 1) * U < 2 * W + 1) (r2 : 2 * W ≤ (2 * R + 1) * U) (r3 : (2 * R - 1) * U = 2 * W → R % 2 = 0) (r4 : 2 * W = (2 * R + 1) * U → R % 2 = 0) :
    2 * (R * (B * U)) - B * U ≤ 2 * N ∧ 2 * N ≤ 2 * (R * (B * U)) + B * U ∧ (2 * (R * (B * U)) - B * U = 2 * N → R % 2 = 0) ∧ (2 * N = 2 * (R * (B * U)) + B * U → R % 2 = 0) := by
  rw [br1, br2]
  have e : 2 * N = (2 * W) * B := by rw [eN, Int.mul_assoc]
  rw [e]
  exact ⟨Int.mul_le_mul_of_nonneg_right (by omega) (Int.le_of_lt hB), Int.mul_le_mul_of_nonneg_right r2 (Int.le_of_lt hB), fun h => r3 (Int.eq_of_mul_eq_mul_right (by omega) h), fun h => r4 (Int.eq_of_mul_eq_mul_right (by omega) h)⟩
theorem bridge_sticky {q B U R S : Int} (hB : 0 < B) (q1 : q * B < S) (q2 : S < (q + 1) * B) (r1 : (2 * R - 1) * U ≤ 2 * (10 * q)) (r2 : 2 * (10 * q + 10) ≤ (2 * R + 1) * U) :
    2 * (R * (B * U)) - B * U < 2 * (10 * S) ∧ 2 * (10 * S) < 2 * (R * (B * U)) + B * U := by
  rw [br1, br2]
  have h1 : (2 * R - 1) * U * B ≤ 2 * (10 * q) * B := Int.mul_le_mul_of_nonneg_right r1 (Int.le_of_lt hB)
  have h2 : 2 * (10 * q + 10) * B ≤ (2 * R + 1) * U * B := Int.mul_le_mul_of_nonneg_right r2 (Int.le_of_lt hB)
  have e1 : 2 * (10 * q) * B = 20 * (q * B) := by grind
  have e2 : 2 * (10 * q + 10) * B = 20 * ((q + 1) * B) := by grind
  omega
theorem ge0 {k : Int} (h : 2 ≤ k) : 0 ≤ k := by omega
theorem ge1 {k : Int} (h : 2 ≤ k) : 1 ≤ k := by omega
theorem pos2 {d p : Int} (h1 : 1 ≤ d) (h2 : d + 2 ≤ p) : 0 ≤ p := by omega
theorem le19 {d p : Int} (h1 : d ≤ 6) (h2 : p ≤ d + 7) : p ≤ 19 := by omega
theorem le20 {p : Int} (h : p ≤ 19) : p ≤ 20 := by omega
theorem fin_a {size R power a1 b1 p k T T' : Int} (hg : size = R ∧ power = a1 - b1 - p + k ∨ size * 10 = R ∧ R = T ∧ power = a1 - b1 - p + k + 1) (hT : T' * 10 = T) : (size = R ∧ power + b1 - a1 = k - p) ∨ (size * 10 = R ∧ size = T' ∧ power + b1 - a1 = k + 1 - p) := by
  rcases hg with ⟨h1, h2⟩ | ⟨h1, h2, h3⟩
  · exact .inl ⟨h1, by omega⟩
  · exact .inr ⟨h1, by omega, by omega⟩
theorem fin_b {size R power a1 b1 p k T T' : Int} (hg : size = R ∧ power = a1 - b1 - p - 1 + k ∨ size * 10 = R ∧ R = T ∧ power = a1 - b1 - p - 1 + k + 1) (hT : T' * 10 = T) : (size = R ∧ power + b1 - a1 = k - (p + 1)) ∨ (size * 10 = R ∧ size = T' ∧ power + b1 - a1 = k + 1 - (p + 1)) := by
  rcases hg with ⟨h1, h2⟩ | ⟨h1, h2, h3⟩
  · exact .inl ⟨h1, by omega⟩
  · exact .inr ⟨h1, by omega, by omega⟩
theorem kbd {f : Nat} {d k : Int} (h : (f : Int) - d = k) (h1 : (d + 1).toNat + 1 ≤ f) (h2 : (f : Int) ≤ ((30 : Nat) : Int)) (h3 : 1 ≤ d) : 2 ≤ k ∧ k ≤ 40 := by omega
theorem bd_c {size R s k P T : Int} (h1 : 0 ≤ P) (h2 : P ≤ 20) (h3 : 0 ≤ k) (h4 : k ≤ 40) (hc : (size = R ∧ s = k - P) ∨ (size * 10 = R ∧ size = T ∧ s = k + 1 - P)) : -20 ≤ s ∧ s ≤ 50 := by
  rcases hc with ⟨_, h⟩ | ⟨_, _, h⟩ <;> constructor <;> omega
theorem div_ok {a0 a1 b0 b1 d f0 f1 size power : Int} (hA0 : 0 < ab a0) (hB0 : 0 < ab b0) (hA : ab a0 < 1000000) (hB : ab b0 < 1000000) (hd1 : 1 ≤ d) (hd2 : d ≤ 6) (h : DivIs a0 a1 b0 b1 d f0 f1) :
    0 < ab f0 ∧ ab f0 < 10 ^ d.toNat ∧ Int.fmod f0 10 ≠ 0 ∧ (decide (f0 < 0) != (decide (a0 < 0) != decide (b0 < 0))) = false ∧
    (Grown (ab f0) f1 d size power → ∃ P k R T N, 0 ≤ P ∧ P ≤ 20 ∧ 0 ≤ k ∧ k ≤ 40 ∧ T = ab b0 * 10 ^ k.toNat ∧ N = ab a0 * 10 ^ P.toNat ∧ 2 * (R * T) - T ≤ 2 * N ∧ 2 * N ≤ 2 * (R * T) + T ∧ (2 * (R * T) - T = 2 * N → R % 2 = 0) ∧ (2 * N = 2 * (R * T) + T → R % 2 = 0) ∧ (R = 10 ^ (d - 1).toNat → R * T ≤ N) ∧
      ((size = R ∧ power + b1 - a1 = k - P) ∨ (size * 10 = R ∧ size = 10 ^ (d - 1).toNat ∧ power + b1 - a1 = k + 1 - P))) := by
  obtain ⟨sz, hM, hf⟩ := h
  have hW := dW_pos hA0 hB0 hA hB hd1 hd2
  have hWa := ab_of_pos hW
  have hWd := dW_bd hA0 hB0 hA hB hd1 hd2
  have hm1 := dm1 hA0 hB0 hA hB hd1 hd2
  have hcp : 0 < ab (dW (ab a0) (ab b0) d) := by omega
  have hl := made_lt hcp hd1 hm1 hM
  have hfsz : ab f0 = sz := by
    rw [hf]; unfold ab; split <;> split <;> omega
  have hn1 := fig_ge (by omega) hWd.1
  have hn2 := fig_le_of (k := 30) (Int.le_of_lt hW) hWd.2.1 (by omega)
  obtain ⟨p1, p2, p3⟩ := dP_bd (d := d) (Int.le_of_lt hA0) (Int.le_of_lt hB0) hA hB
  refine ⟨by omega, by omega, ?_, ?_, fun g => ?_⟩
  · rw [fmod10, hf]; split <;> omega
  · rw [hf]
    by_cases x : a0 < 0 <;> by_cases y : b0 < 0 <;> simp [x, y] <;> omega
  · rw [hfsz] at g
    have hg := grown_is hcp hd1 hm1 hM g
    rw [hWa] at hg hm1
    have hdd : (10 : Int) ^ (d - 1).toNat * 10 = 10 ^ d.toNat := by
      rw [← Int.pow_succ]; congr 1; exact tnd hd1
    have hlow := rnd_low (W := dW (ab a0) (ab b0) d) (k := (figN (dW (ab a0) (ab b0) d).toNat : Nat) - d) (d := d) hW (by omega) hd1 (by omega)
    generalize hk : ((figN (dW (ab a0) (ab b0) d).toNat : Nat) : Int) - d = k at *
    have hkb := kbd hk hn1 hn2 hd1
    have hp0 := pos2 hd1 p1
    have hp19 := le19 hd2 p2
    have hU := pow10_pos k
    have hU10 : (10 : Int) ^ k.toNat = 10 * 10 ^ (k - 1).toNat := by
      rw [tnp hkb.1, Int.pow_succ, Int.mul_comm]
    obtain ⟨q1, q2⟩ := quo_facts (n := dS (ab a0) (ab b0) d) hB0
    obtain ⟨m1, m2, m3⟩ := int_ediv_facts (W := dS (ab a0) (ab b0) d) hB0
    by_cases hr : (dS (ab a0) (ab b0) d).fmod (ab b0) = 0
    · have eW : dW (ab a0) (ab b0) d = (dS (ab a0) (ab b0) d).fdiv (ab b0) := by unfold dW; rw [if_pos hr]
      have eX : dX (ab a0) (ab b0) d (a1 - b1) = a1 - b1 - dP (ab a0) (ab b0) d := by unfold dX; rw [if_pos hr]
      obtain ⟨r1, r2, r3, r4⟩ := round_exact (W := dW (ab a0) (ab b0) d) (k := k) (ge1 hkb.1)
      rw [eX] at hg
      have eN : dS (ab a0) (ab b0) d = dW (ab a0) (ab b0) d * ab b0 := by rw [eW]; omega
      generalize dW (ab a0) (ab b0) d = W at *
      generalize rnd W k = R at *
      have hbr := bridge_exact (U := 10 ^ k.toNat) hB0 eN r1 r2 r3 r4
      refine ⟨dP (ab a0) (ab b0) d, k, R, ab b0 * 10 ^ k.toNat, dS (ab a0) (ab b0) d, hp0, le20 hp19, ge0 hkb.1, hkb.2, rfl, rfl, hbr.1, hbr.2.1, hbr.2.2.1, hbr.2.2.2, ?_, fin_a hg hdd⟩
      · intro h
        rw [h, eN, Int.mul_comm (ab b0), ← Int.mul_assoc]
        exact Int.mul_le_mul_of_nonneg_right hlow.1 (Int.le_of_lt hB0)
    · have eW : dW (ab a0) (ab b0) d = 10 * (dS (ab a0) (ab b0) d).fdiv (ab b0) + 1 := by unfold dW; rw [if_neg hr]; omega
      have eX : dX (ab a0) (ab b0) d (a1 - b1) = a1 - b1 - dP (ab a0) (ab b0) d - 1 := by unfold dX; rw [if_neg hr]
      rw [eX] at hg
      have q1' : (dS (ab a0) (ab b0) d).fdiv (ab b0) * ab b0 < dS (ab a0) (ab b0) d := by omega
      have hP1 : (dP (ab a0) (ab b0) d + 1).toNat = (dP (ab a0) (ab b0) d).toNat + 1 := tn1 hp0
      have hS10 : 10 * dS (ab a0) (ab b0) d = ab a0 * 10 ^ (dP (ab a0) (ab b0) d + 1).toNat := by
        unfold dS
        rw [hP1, Int.pow_succ]
        grind
      generalize dS (ab a0) (ab b0) d = S at *
      generalize Int.fdiv S (ab b0) = q at *
      obtain ⟨r1, r2⟩ := round_sticky (q := q) (k := k) (hkb.1)
      rw [eW] at hg hlow
      generalize rnd (10 * q + 1) k = R at *
      have hbr := bridge_sticky (U := 10 ^ k.toNat) hB0 q1' q2 r1 r2
      refine ⟨dP (ab a0) (ab b0) d + 1, k, R, ab b0 * 10 ^ k.toNat, 10 * S, Int.le_trans hp0 (Int.le_add_of_nonneg_right (by decide)), Int.add_le_add_right hp19 1, ge0 hkb.1, hkb.2, rfl, hS10, Int.le_of_lt hbr.1, Int.le_of_lt hbr.2, fun h => absurd h (Int.ne_of_lt hbr.1), fun h => absurd h (Int.ne_of_lt hbr.2), ?_, fin_b hg hdd⟩
      intro h
      have h6 := hlow.1
      rw [hU10, ← Int.mul_assoc, Int.mul_comm _ (10 : Int), Int.mul_assoc] at h6
      have h7 : (10 : Int) ^ (d - 1).toNat * 10 ^ k.toNat ≤ 10 * q := by
        rw [hU10, ← Int.mul_assoc, Int.mul_comm _ (10 : Int), Int.mul_assoc]
        omega
      have h8 : (10 : Int) ^ (d - 1).toNat * 10 ^ k.toNat * ab b0 ≤ 10 * q * ab b0 := Int.mul_le_mul_of_nonneg_right h7 (Int.le_of_lt hB0)
      rw [h, Int.mul_comm (ab b0), ← Int.mul_assoc]
      have e9 : 10 * q * ab b0 = 10 * (q * ab b0) := Int.mul_assoc _ _ _
      omega
end Mine
end
section
namespace Mine
theorem made_val {c e d sz ex R : Int} {n : Nat} (hn : figN (ab c).toNat = n) (hR : rnd (ab c) (n - d) = R) (h0 : R % 10 ≠ 0) (h : MadeIs c e d sz ex) : sz = R ∧ ex = e + (n - d) := by
  obtain ⟨h1, h2, h3, h4⟩ := h
  rw [hn] at h3 h4
  rw [hR] at h4
  generalize hj : (ex - (e + ((n : Int) - d))).toNat = j at *
  rcases Nat.eq_zero_or_pos j with z | z
  · subst z
    simp at h4
    omega
  · exfalso
    have e1 : j = (j - 1) + 1 := by omega
    rw [e1, Int.pow_succ, ← Int.mul_assoc] at h4
    omega
theorem ab2 : ab 2 = 2 := by unfold ab; rfl
theorem ab3 : ab 3 = 3 := by unfold ab; rfl
theorem ab8 : ab 8 = 8 := by unfold ab; rfl
theorem abm1 : ab (-1) = 1 := by unfold ab; rfl
theorem fig1 (n : Nat) (h : n < 10) : figN n = 1 := figN_of n 1 (by omega) (by omega) (.inl rfl)
theorem div67 {f0 f1 : Int} (h : DivIs 2 0 3 0 2 f0 f1) : f0 = 67 ∧ f1 = -2 := by
  obtain ⟨sz, hM, hf⟩ := h
  rw [ab2, ab3] at hM
  have hP : dP 2 3 2 = 4 := by
    unfold dP
    rw [fig1 _ (by decide), fig1 _ (by decide)]
    decide
  have hS : dS 2 3 2 = 20000 := by unfold dS; rw [hP]; rfl
  have hW : dW 2 3 2 = 66661 := by unfold dW; rw [hS]; decide
  have hX : dX 2 3 2 (0 - 0) = -5 := by unfold dX; rw [hS, hP]; decide
  rw [hW, hX] at hM
  have ha : ab 66661 = 66661 := ab_of_pos (by decide)
  have hn : figN (ab 66661).toNat = 5 := by rw [ha]; exact figN_of _ 5 (by omega) (by decide) (.inr (by decide))
  have hr : rnd (ab 66661) ((5 : Nat) - 2) = 67 := by rw [ha]; unfold rnd; decide
  have := made_val hn hr (by decide) hM
  simp at hf
  omega
theorem div12 {f0 f1 : Int} (h : DivIs (-1) 0 8 0 2 f0 f1) : f0 = -12 ∧ f1 = -2 := by
  obtain ⟨sz, hM, hf⟩ := h
  rw [abm1, ab8] at hM
  have hP : dP 1 8 2 = 4 := by
    unfold dP
    rw [fig1 _ (by decide), fig1 _ (by decide)]
    decide
  have hS : dS 1 8 2 = 10000 := by unfold dS; rw [hP]; rfl
  have hW : dW 1 8 2 = 1250 := by unfold dW; rw [hS]; decide
  have hX : dX 1 8 2 (0 - 0) = -4 := by unfold dX; rw [hS, hP]; decide
  rw [hW, hX] at hM
  have ha : ab 1250 = 1250 := ab_of_pos (by decide)
  have hn : figN (ab 1250).toNat = 4 := by rw [ha]; exact figN_of _ 4 (by omega) (by decide) (.inr (by decide))
  have hr : rnd (ab 1250) ((4 : Nat) - 2) = 12 := by rw [ha]; unfold rnd; decide
  have := made_val hn hr (by decide) hM
  simp at hf
  omega
theorem root141 {f0 f1 : Int} (h : RootIs 2 0 3 f0 f1) : f0 = 141 ∧ f1 = -2 := by
  obtain ⟨r, P, r1, r2, r3, p1, p2, p3, hM⟩ := h
  rw [fmod2] at p3
  have hP : P = 10 := by omega
  subst hP
  have hS : (2 : Int) * 10 ^ (10 : Int).toNat = 20000000000 := rfl
  rw [hS] at hM r2 r3
  have hr : r = 141421 := by
    have h1 : r < 141422 := by
      false_or_by_contra
      have := sq_le (a := 141422) (b := r) (by decide) (by omega)
      omega
    have h2 : 141420 < r := by
      false_or_by_contra
      have := sq_le (a := r + 1) (b := 141421) (by omega) (by omega)
      omega
    omega
  subst hr
  have hW : rW 20000000000 141421 = 1414211 := by unfold rW; decide
  have hX : (if (20000000000 : Int) - 141421 * 141421 = 0 then Int.fdiv (0 - 10) 2 else Int.fdiv (0 - 10) 2 - 1) = -6 := by decide
  rw [hW, hX] at hM
  have ha : ab 1414211 = 1414211 := ab_of_pos (by decide)
  have hn : figN (ab 1414211).toNat = 7 := by rw [ha]; exact figN_of _ 7 (by omega) (by decide) (.inr (by decide))
  have hr : rnd (ab 1414211) ((7 : Nat) - 3) = 141 := by rw [ha]; unfold rnd; decide
  have := made_val hn hr (by decide) hM
  omega
end Mine
end
section
namespace Mine
theorem sq_def (x : Int) : x ^ (2 : Int).toNat = x * x := by
  show x ^ 2 = x * x
  rw [Int.pow_succ, Int.pow_succ]
  simp
theorem sqsc (X U : Int) : X * X * (U * U) = (X * U) * (X * U) := by grind
theorem pow_dbl (k : Int) (hk : 0 ≤ k) : (10 : Int) ^ (2 * k).toNat = 10 ^ k.toNat * 10 ^ k.toNat := by
  rw [← Int.pow_add, ← Int.toNat_add hk hk, show k + k = 2 * k by omega]
theorem root_core {a0 P k d size s N R U : Int} (hR : 0 < R) (hP : 0 ≤ P) (hk : 0 ≤ k) (hU : U = 10 ^ k.toNat) (hN : N = a0 * 10 ^ P.toNat)
    (h1 : ((2 * R - 1) * U) * ((2 * R - 1) * U) ≤ 4 * N) (h2 : 4 * N ≤ ((2 * R + 1) * U) * ((2 * R + 1) * U)) (h5 : R = 10 ^ (d - 1).toNat → (R * U) * (R * U) ≤ N)
    (hc : (size = R ∧ s = 2 * k - P) ∨ (size * 10 = R ∧ size = 10 ^ (d - 1).toNat ∧ s = 2 * (k + 1) - P)) :
    (size = 10 ^ (d - 1).toNat → (20 * size - 1) * (20 * size - 1) * 10 ^ (if s > 0 then s else 0).toNat ≤ 100 * (4 * a0 * 10 ^ (if 0 - s > 0 then 0 - s else 0).toNat) ∧ 100 * (4 * a0 * 10 ^ (if 0 - s > 0 then 0 - s else 0).toNat) ≤ 100 * ((2 * size + 1) * (2 * size + 1)) * 10 ^ (if s > 0 then s else 0).toNat) ∧
    (size ≠ 10 ^ (d - 1).toNat → (2 * size - 1) * (2 * size - 1) * 10 ^ (if s > 0 then s else 0).toNat ≤ 4 * a0 * 10 ^ (if 0 - s > 0 then 0 - s else 0).toNat ∧ 4 * a0 * 10 ^ (if 0 - s > 0 then 0 - s else 0).toNat ≤ (2 * size + 1) * (2 * size + 1) * 10 ^ (if s > 0 then s else 0).toNat) := by
  have hUp : 0 < U := by rw [hU]; exact pow10_pos k
  have key : ∀ {K s : Int}, s = K - P → 0 ≤ K → ∃ sc, 0 < sc ∧ (4 * a0 * 10 ^ (if 0 - s > 0 then 0 - s else 0).toNat) * sc = 4 * N ∧ (10 ^ (if s > 0 then s else 0).toNat) * sc = 10 ^ K.toNat := by
    intro K s h hK
    obtain ⟨sc, p, e1, e2⟩ := scale (A := 4 * a0) (B := 1) h hP hK
    refine ⟨sc, p, ?_, by simpa using e2⟩
    rw [e1, hN, Int.mul_assoc]
  rcases hc with ⟨c1, c2⟩ | ⟨c1, c2, c3⟩
  · subst c1
    obtain ⟨sc, p, e1, e2⟩ := key c2 (by omega)
    rw [pow_dbl k hk, ← hU] at e2
    generalize 4 * a0 * 10 ^ (if 0 - s > 0 then 0 - s else 0).toNat = H at *
    generalize (10 : Int) ^ (if s > 0 then s else 0).toNat = V at *
    have mulV : ∀ X : Int, (X * X * V) * sc = (X * U) * (X * U) := fun X => by rw [Int.mul_assoc, e2, sqsc]
    refine ⟨fun h => ⟨?_, ?_⟩, fun _ => ⟨?_, ?_⟩⟩
    · refine Int.le_of_mul_le_mul_right (a := sc) ?_ p
      rw [mulV, Int.mul_assoc 100 H sc, e1]
      have h6 := h5 h
      have h7 := sq_le (a := (20 * size - 1) * U) (b := 20 * (size * U)) (Int.mul_nonneg (by omega) (by omega)) (by rw [← Int.mul_assoc]; exact Int.mul_le_mul_of_nonneg_right (by omega) (by omega))
      have h8 : 20 * (size * U) * (20 * (size * U)) = 400 * ((size * U) * (size * U)) := by grind
      omega
    · refine Int.le_of_mul_le_mul_right (a := sc) ?_ p
      rw [Int.mul_assoc 100 H sc, e1, Int.mul_assoc 100, Int.mul_assoc 100, mulV]
      omega
    · refine Int.le_of_mul_le_mul_right (a := sc) ?_ p
      rw [mulV, e1]
      exact h1
    · refine Int.le_of_mul_le_mul_right (a := sc) ?_ p
      rw [mulV, e1]
      exact h2
  · obtain ⟨sc, p, e1, e2⟩ := key c3 (by omega)
    have hV10 : (10 : Int) ^ (k + 1).toNat = 10 * U := by
      rw [tn1 hk, Int.pow_succ, Int.mul_comm, hU]
    rw [pow_dbl (k + 1) (by omega), hV10] at e2
    generalize 4 * a0 * 10 ^ (if 0 - s > 0 then 0 - s else 0).toNat = H at *
    generalize (10 : Int) ^ (if s > 0 then s else 0).toNat = V at *
    have mulV : ∀ X : Int, (X * X * V) * sc = (X * (10 * U)) * (X * (10 * U)) := fun X => by rw [Int.mul_assoc, e2, sqsc]
    have hsz : 0 < size := by omega
    refine ⟨fun h => ⟨?_, ?_⟩, fun h => absurd c2 h⟩
    · refine Int.le_of_mul_le_mul_right (a := sc) ?_ p
      rw [mulV, Int.mul_assoc 100 H sc, e1]
      have e3 : (20 * size - 1) * (10 * U) * ((20 * size - 1) * (10 * U)) = 100 * (((2 * R - 1) * U) * ((2 * R - 1) * U)) := by
        rw [← c1]; grind
      omega
    · refine Int.le_of_mul_le_mul_right (a := sc) ?_ p
      rw [Int.mul_assoc 100 H sc, e1, Int.mul_assoc 100, Int.mul_assoc 100, mulV]
      have h7 := sq_le (a := (2 * R + 1) * U) (b := (2 * size + 1) * (10 * U)) (Int.mul_nonneg (by omega) (by omega)) (by
        rw [← Int.mul_assoc]
        exact Int.mul_le_mul_of_nonneg_right (by omega) (by omega))
      omega
theorem fin_c {size R power a1 P k T T' : Int} (hp : (a1 - P) % 2 = 0) (hg : size = R ∧ power = (a1 - P) / 2 + k ∨ size * 10 = R ∧ R = T ∧ power = (a1 - P) / 2 + k + 1) (hT : T' * 10 = T) : (size = R ∧ 2 * power - a1 = 2 * k - P) ∨ (size * 10 = R ∧ size = T' ∧ 2 * power - a1 = 2 * (k + 1) - P) := by
  have e : 2 * ((a1 - P) / 2) = a1 - P := by omega
  rcases hg with ⟨h1, h2⟩ | ⟨h1, h2, h3⟩
  · exact .inl ⟨h1, by omega⟩
  · exact .inr ⟨h1, by omega, by omega⟩
theorem fin_d {size R power a1 P k T T' : Int} (hp : (a1 - P) % 2 = 0) (hg : size = R ∧ power = (a1 - P) / 2 - 1 + k ∨ size * 10 = R ∧ R = T ∧ power = (a1 - P) / 2 - 1 + k + 1) (hT : T' * 10 = T) : (size = R ∧ 2 * power - a1 = 2 * k - (P + 2)) ∨ (size * 10 = R ∧ size = T' ∧ 2 * power - a1 = 2 * (k + 1) - (P + 2)) := by
  have e : 2 * ((a1 - P) / 2) = a1 - P := by omega
  rcases hg with ⟨h1, h2⟩ | ⟨h1, h2, h3⟩
  · exact .inl ⟨h1, by omega⟩
  · exact .inr ⟨h1, by omega, by omega⟩
theorem pb {d P : Int} (h1 : 1 ≤ d) (h2 : d ≤ 6) (h3 : 2 * d + 4 ≤ P) (h4 : P ≤ 2 * d + 5) : 0 ≤ P ∧ P ≤ 18 := by omega
theorem kbd2 {f : Nat} {d k : Int} (h : (f : Int) - d = k) (h1 : (d + 2).toNat + 1 ≤ f) (h2 : (f : Int) ≤ ((30 : Nat) : Int)) (h3 : 1 ≤ d) : 2 ≤ k ∧ k ≤ 40 := by omega
theorem bd_r {size R s k P T : Int} (h1 : 0 ≤ P) (h2 : P ≤ 20) (h3 : 0 ≤ k) (h4 : k ≤ 40) (hc : (size = R ∧ s = 2 * k - P) ∨ (size * 10 = R ∧ size = T ∧ s = 2 * (k + 1) - P)) : s ≤ 100 ∧ 0 - s ≤ 100 := by
  rcases hc with ⟨_, h⟩ | ⟨_, _, h⟩ <;> constructor <;> omega
theorem m1n {R U : Int} (hR : 0 < R) (hU : 0 < U) : 0 ≤ (2 * R - 1) * U := Int.mul_nonneg (by omega) (Int.le_of_lt hU)
theorem root_ok {a0 a1 d f0 f1 size power : Int} (ha0 : 0 < a0) (ha1 : a0 < 1000000) (hd1 : 1 ≤ d) (hd2 : d ≤ 6) (h : RootIs a0 a1 d f0 f1) :
    0 < f0 ∧ ab f0 = f0 ∧ f0 < 10 ^ d.toNat ∧ Int.fmod f0 10 ≠ 0 ∧
    (Grown (ab f0) f1 d size power → ∃ P k R U N, 0 < R ∧ 0 ≤ P ∧ P ≤ 20 ∧ 0 ≤ k ∧ k ≤ 40 ∧ U = 10 ^ k.toNat ∧ N = a0 * 10 ^ P.toNat ∧ ((2 * R - 1) * U) * ((2 * R - 1) * U) ≤ 4 * N ∧ 4 * N ≤ ((2 * R + 1) * U) * ((2 * R + 1) * U) ∧ (R = 10 ^ (d - 1).toNat → (R * U) * (R * U) ≤ N) ∧
      ((size = R ∧ 2 * power - a1 = 2 * k - P) ∨ (size * 10 = R ∧ size = 10 ^ (d - 1).toNat ∧ 2 * power - a1 = 2 * (k + 1) - P))) := by
  obtain ⟨r, P, r1, r2, r3, p1, p2, p3, hM⟩ := h
  obtain ⟨w1, w2, w3⟩ := rW_bd ha0 ha1 hd1 hd2 p1 p2 r1 r2 r3
  obtain ⟨s1, s2⟩ := root_S ha0 ha1 hd1 hd2 p1 p2
  have rbig := root_big r1 r3 s2
  have rsm := root_small r1 r2 s1
  have hWa := ab_of_pos w1
  have hcp : 0 < ab (rW (a0 * 10 ^ P.toNat) r) := by omega
  have hl := made_lt hcp hd1 w2 hM
  have hfa := ab_of_pos hl.1
  refine ⟨hl.1, hfa, hl.2.1, by rw [fmod10]; exact hl.2.2, fun g => ?_⟩
  rw [hfa] at g
  have hg := grown_is hcp hd1 w2 hM g
  rw [hWa] at hg w2
  have hdd : (10 : Int) ^ (d - 1).toNat * 10 = 10 ^ d.toNat := by
    rw [← Int.pow_succ]; congr 1; exact tnd hd1
  have hp1 := pow10_pos (d + 2)
  have hWr : r ≤ rW (a0 * 10 ^ P.toNat) r := by unfold rW; split <;> omega
  have hWr2 : rW (a0 * 10 ^ P.toNat) r < 10 ^ 30 := by unfold rW; split <;> omega
  have hn1 := fig_ge (n := rW (a0 * 10 ^ P.toNat) r) (k := (d + 2).toNat) (by omega) (by omega)
  have hn2 := fig_le_of (k := 30) (Int.le_of_lt w1) hWr2 (by omega)
  have hlow := rnd_low (W := rW (a0 * 10 ^ P.toNat) r) (k := (figN (rW (a0 * 10 ^ P.toNat) r).toNat : Nat) - d) (d := d) w1 (by omega) hd1 (by omega)
  generalize hk : ((figN (rW (a0 * 10 ^ P.toNat) r).toNat : Nat) : Int) - d = k at *
  have hU := pow10_pos k
  have hkb := kbd2 hk hn1 hn2 hd1
  have hpb := pb hd1 hd2 p1 p2
  have hU10 : (10 : Int) ^ k.toNat = 10 * 10 ^ (k - 1).toNat := by
    rw [tnp hkb.1, Int.pow_succ, Int.mul_comm]
  have hpd := pow10_pos (d - 1)
  rw [fmod2] at p3
  rw [fdiv2] at hg
  by_cases hr : a0 * 10 ^ P.toNat - r * r = 0
  · have eW : rW (a0 * 10 ^ P.toNat) r = r := by unfold rW; rw [if_pos hr]
    rw [if_pos hr] at hg
    rw [eW] at hg hlow
    obtain ⟨q1, q2, _, _⟩ := round_exact (W := r) (k := k) (ge1 hkb.1)
    have eN : a0 * 10 ^ P.toNat = r * r := by omega
    generalize rnd r k = R at *
    have hR : 0 < R := Int.lt_of_lt_of_le hpd hlow.2
    refine ⟨P, k, R, 10 ^ k.toNat, a0 * 10 ^ P.toNat, hR, hpb.1, Int.le_trans hpb.2 (by decide), ge0 hkb.1, hkb.2, rfl, rfl, ?_, ?_, ?_, fin_c p3 hg hdd⟩
    · have := sq_le (a := (2 * R - 1) * 10 ^ k.toNat) (b := 2 * r) (m1n hR hU) (Int.le_of_lt_add_one q1)
      have e : 2 * r * (2 * r) = 4 * (r * r) := by grind
      omega
    · have := sq_le (a := 2 * r) (b := (2 * R + 1) * 10 ^ k.toNat) (by omega) (by omega)
      have e : 2 * r * (2 * r) = 4 * (r * r) := by grind
      omega
    · intro h
      rw [eN, h]
      exact sq_le (Int.mul_nonneg (by omega) (by omega)) hlow.1
  · have eW : rW (a0 * 10 ^ P.toNat) r = 10 * r + 1 := by unfold rW; rw [if_neg hr]; omega
    rw [if_neg hr] at hg
    rw [eW] at hg hlow
    obtain ⟨q1, q2⟩ := round_sticky (q := r) (k := k) hkb.1
    have hP2 : (P + 2).toNat = P.toNat + 2 := tn2 hpb.1
    have hS100 : 100 * (a0 * 10 ^ P.toNat) = a0 * 10 ^ (P + 2).toNat := by
      rw [hP2, Int.pow_add]
      show _ = a0 * (10 ^ P.toNat * 100)
      grind
    generalize a0 * 10 ^ P.toNat = S at *
    generalize rnd (10 * r + 1) k = R at *
    have hR : 0 < R := Int.lt_of_lt_of_le hpd hlow.2
    refine ⟨P + 2, k, R, 10 ^ k.toNat, 100 * S, hR, Int.le_trans hpb.1 (Int.le_add_of_nonneg_right (by decide)), Int.add_le_add_right hpb.2 2, ge0 hkb.1, hkb.2, rfl, hS100, ?_, ?_, ?_, fin_d p3 hg hdd⟩
    · have := sq_le (a := (2 * R - 1) * 10 ^ k.toNat) (b := 2 * (10 * r)) (m1n hR hU) q1
      have e : 2 * (10 * r) * (2 * (10 * r)) = 400 * (r * r) := by grind
      omega
    · have := sq_le (a := 2 * (10 * r + 10)) (b := (2 * R + 1) * 10 ^ k.toNat) (by omega) q2
      have e : 2 * (10 * r + 10) * (2 * (10 * r + 10)) = 400 * ((r + 1) * (r + 1)) := by grind
      omega
    · intro h
      have h6 := hlow.1
      rw [hU10, ← Int.mul_assoc, Int.mul_comm _ (10 : Int), Int.mul_assoc] at h6
      have h7 : R * 10 ^ k.toNat ≤ 10 * r := by
        rw [h, hU10, ← Int.mul_assoc, Int.mul_comm _ (10 : Int), Int.mul_assoc]
        omega
      have := sq_le (Int.mul_nonneg (a := R) (b := 10 ^ k.toNat) (by omega) (by omega)) h7
      have e : 10 * r * (10 * r) = 100 * (r * r) := by grind
      omega
end Mine
end
section
open PySem PySem.W PyProof.Rows PySem.Calls
set_option maxRecDepth 100000
namespace Mine
section
variable {w : World} {p : Program} {loose : List Str} {mean : ExcName → Option Value} {mg mb : Str → Option Value} {dp un : Nat} {gd : Option (List Code)} {cn : Str} {cs : Scope} {a : Addr} {ccd : Value} {cl : List (Str × Addr)} {outer : List Env} {A₀ : Around} {base h₀ : Heap} {L : Addr} {m : Str → Option Value} {s : Shared} {Q E : Value → Shared → Prop} {news : List (Addr × Obj)}
theorem fin_bool {Q : Value → Shared → Prop} {b : Bool} {st : Shared} (h : b = true) (hq : Q (.bool true) st) : Q (.bool b) st := by rw [h]; exact hq
theorem ab_ne {f : Int} (h : 0 < ab f) : f ≠ 0 := by intro e; subst e; unfold ab at h; simp at h
set_option maxHeartbeats 1000000 in
theorem quot_c {a0 a1 b0 b1 f0 f1 d : Int} {x y z : Addr} {t1 t2 t3 t4 t5 t6 t7 : Tok} {n1 n2 n3 : Nat} (B : Below A₀ base outer h₀) (F : Fr h₀ L s.heap m) (X : (hd.heap_39 w.params).In h₀) (N : News h₀ L s.heap news) (T : Top p loose mean mg mb h₀) (hk : cs.kind = .function)
    (hx : (x, tup2 a0 t1 a1 t2 n1) ∈ news) (hy : (y, tup2 b0 t3 b1 t4 n2) ∈ news) (hz : (z, tup2 f0 t5 f1 t6 n3) ∈ news)
    (hd1 : 1 ≤ d) (hd2 : d ≤ 6) (ha0 : -1000000 < a0) (ha1 : a0 < 1000000) (hb0 : -1000000 < b0) (hb1 : b0 < 1000000) (hb : b0 ≠ 0) (ha : a0 ≠ 0)
    (hD : DivIs a0 a1 b0 b1 d f0 f1)
    (hd : dp + 8 < recursionLimit) (hu : un + 160 < cLine)
    (hret : ∀ h' tk', Fr h₀ L h' m → News h₀ L h' news → Q (.bool true) { s with heap := h', toks := tk' }) :
    wpAny (model PySem.Challenge.rw_pq0158_01.row.prog w) (ktrTop dp un gd cn cs L a ccd cl outer) (call (.ref 135) [.ref x, .ref y, .ref z, .int d t7]) Q E s := by
  w_top off
  k_with_none
  (k_with "binaryOp FloorDiv int int" => (k_here; k_dflt (refine' floordiv_int ?zyhb ?_ (Or.inl (PyProof.noPylong_of_log2 (big_log ?zyh1 ?zyh2))); (case zyhb => omega); (case zyh1 => omega); (case zyh2 => omega))))
  (k_with "call builtin:abs" => ((with_reducible refine abs_ab ?_); intro _ _))
  (k_with "subscriptTail Name Constant ref int" => (k_here; (with_reducible show wpAny _ _ (subscriptTail _ _ (Value.ref _) (Value.int _ _)) _ _ _); (with_unfolding_all refine' t2_i ?zyN ?zyhm ?zyh0 ?zyh1 ?zyhv ?_ ?zyhs; (case zyN => k_asm); (case zyhm => with_reducible (first | assumption | exact List.mem_cons_self | (refine List.mem_cons_of_mem _ ?_; (first | assumption | exact List.mem_cons_self | (refine List.mem_cons_of_mem _ ?_; (first | assumption | exact List.mem_cons_self | (refine List.mem_cons_of_mem _ ?_; (first | assumption | exact List.mem_cons_self | (refine List.mem_cons_of_mem _ ?_; (first | assumption | exact List.mem_cons_self | (refine List.mem_cons_of_mem _ ?_; (first | assumption | exact List.mem_cons_self)))))))))))); (case zyh0 => decide); (case zyh1 => decide); (case zyhv => exact rfl); (case zyhs => with_unfolding_all rfl); k_whole)))
  (k_with "compareOp Eq ref ref" => (k_here; (with_reducible show wpAny _ _ (compareOp _ (Value.ref _) (Value.ref _)) _ _ _); (with_unfolding_all refine' eq_t2 ?zyN ?zyhx ?zyhy ?zyhu ?_; (case zyN => k_asm); (case zyhx => with_reducible (first | assumption | exact List.mem_cons_self | (refine List.mem_cons_of_mem _ ?_; (first | assumption | exact List.mem_cons_self | (refine List.mem_cons_of_mem _ ?_; (first | assumption | exact List.mem_cons_self | (refine List.mem_cons_of_mem _ ?_; (first | assumption | exact List.mem_cons_self | (refine List.mem_cons_of_mem _ ?_; (first | assumption | exact List.mem_cons_self | (refine List.mem_cons_of_mem _ ?_; (first | assumption | exact List.mem_cons_self)))))))))))); (case zyhy => with_reducible (first | assumption | exact List.mem_cons_self | (refine List.mem_cons_of_mem _ ?_; (first | assumption | exact List.mem_cons_self | (refine List.mem_cons_of_mem _ ?_; (first | assumption | exact List.mem_cons_self | (refine List.mem_cons_of_mem _ ?_; (first | assumption | exact List.mem_cons_self | (refine List.mem_cons_of_mem _ ?_; (first | assumption | exact List.mem_cons_self | (refine List.mem_cons_of_mem _ ?_; (first | assumption | exact List.mem_cons_self)))))))))))); (case zyhu => ktr_units); k_whole)))
  (k_with "compareOp NotEq ref ref" => (k_here; (with_reducible show wpAny _ _ (compareOp _ (Value.ref _) (Value.ref _)) _ _ _); (with_unfolding_all refine' ne_t2 ?zyN ?zyhx ?zyhy ?zyhu ?_; (case zyN => k_asm); (case zyhx => with_reducible (first | assumption | exact List.mem_cons_self | (refine List.mem_cons_of_mem _ ?_; (first | assumption | exact List.mem_cons_self | (refine List.mem_cons_of_mem _ ?_; (first | assumption | exact List.mem_cons_self | (refine List.mem_cons_of_mem _ ?_; (first | assumption | exact List.mem_cons_self | (refine List.mem_cons_of_mem _ ?_; (first | assumption | exact List.mem_cons_self | (refine List.mem_cons_of_mem _ ?_; (first | assumption | exact List.mem_cons_self)))))))))))); (case zyhy => with_reducible (first | assumption | exact List.mem_cons_self | (refine List.mem_cons_of_mem _ ?_; (first | assumption | exact List.mem_cons_self | (refine List.mem_cons_of_mem _ ?_; (first | assumption | exact List.mem_cons_self | (refine List.mem_cons_of_mem _ ?_; (first | assumption | exact List.mem_cons_self | (refine List.mem_cons_of_mem _ ?_; (first | assumption | exact List.mem_cons_self | (refine List.mem_cons_of_mem _ ?_; (first | assumption | exact List.mem_cons_self)))))))))))); (case zyhu => ktr_units); k_whole)))
  (k_with "call ref" => (k_here; k_dflt (refine' shape_c ?zyk1 ?zyk2 ?zyk3 ?zyk4 ?zyk5 ?zykK ?zykx ?zykp ?zykq ?zys1 ?zys2 ?zys3 ?zys4 ?zykd ?zyku ?_; (case zyk1 => k_asm); (case zyk2 => k_asm); (case zyk3 => k_asm); (case zyk4 => k_asm); (case zyk5 => k_asm); (case zykK => first | exact rfl | assumption); (case zykx => with_reducible (first | assumption | exact List.mem_cons_self | (refine List.mem_cons_of_mem _ ?_; (first | assumption | exact List.mem_cons_self | (refine List.mem_cons_of_mem _ ?_; (first | assumption | exact List.mem_cons_self | (refine List.mem_cons_of_mem _ ?_; (first | assumption | exact List.mem_cons_self | (refine List.mem_cons_of_mem _ ?_; (first | assumption | exact List.mem_cons_self | (refine List.mem_cons_of_mem _ ?_; (first | assumption | exact List.mem_cons_self)))))))))))); (case zykp => omega); (case zykq => omega); (case zys1 => assumption); (case zys2 => assumption); (case zys3 => assumption); (case zys4 => assumption); (case zykd => ktr_room); (case zyku => ktr_units)); intro h9 tk9 F9 N9; (try dsimp only); (try k_fold)))
  (k_with "call ref" => (k_here; k_dflt (refine' grown_c ?zyk1 ?zyk2 ?zyk3 ?zyk4 ?zyk5 ?zykK ?zykx ?zykp ?zykq ?zys3 ?zys4 ?zykd ?zyku ?_; (case zyk1 => k_asm); (case zyk2 => k_asm); (case zyk3 => k_asm); (case zyk4 => k_asm); (case zyk5 => k_asm); (case zykK => first | exact rfl | assumption); (case zykx => with_reducible (first | assumption | exact List.mem_cons_self | (refine List.mem_cons_of_mem _ ?_; (first | assumption | exact List.mem_cons_self | (refine List.mem_cons_of_mem _ ?_; (first | assumption | exact List.mem_cons_self | (refine List.mem_cons_of_mem _ ?_; (first | assumption | exact List.mem_cons_self | (refine List.mem_cons_of_mem _ ?_; (first | assumption | exact List.mem_cons_self | (refine List.mem_cons_of_mem _ ?_; (first | assumption | exact List.mem_cons_self)))))))))))); (case zykp => omega); (case zykq => omega); (case zys3 => assumption); (case zys4 => assumption); (case zykd => ktr_room); (case zyku => ktr_units)); k_extra "g1"; (try dsimp only); (try k_fold)))
  have hK : (PySem.Challenge.rw_pq0158_01 = PySem.Challenge.rw_pq0158_01 ∧ Mine.hd.heap_39 = Mine.hd.heap_39) := by
    k_fill
    exact ⟨rfl, rfl⟩
  clear hK
  have hA6 : ab a0 < 1000000 := ab_lt ha0 ha1
  have hB6 : ab b0 < 1000000 := ab_lt hb0 hb1
  have hA0 : 0 < ab a0 := ab_pos ha
  have hB0 : 0 < ab b0 := ab_pos hb
  have hp6 : (10 : Int) ^ d.toNat ≤ 1000000 := pow10_mil hd2
  obtain ⟨hf2, hf3, hf1, hfs, _⟩ := div_ok (size := 0) (power := 0) hA0 hB0 hA6 hB6 hd1 hd2 hD
  have hf0 := ab_ne hf2
  refine wpAny_call ?_
  k_dflt ktr_enter
  (k_with "g1" => (intro sz ex D9 u9 v9 n9 h9 tk9 G9 F9 N9 l9; have G8 := G9; obtain ⟨⟨G1, G2, G0⟩, G5⟩ := G8; have o5 := (div_ok (size := sz) (power := ex) hA0 hB0 hA6 hB6 hd1 hd2 hD).2.2.2.2 G9; obtain ⟨Pp, kk, RR, TT, NN, p1, p2, p3, p4, hT, hN, g1, g2, g3, g4, g5, gc⟩ := o5; clear G0; obtain ⟨G3, G4⟩ := bd_c p1 p2 p3 p4 gc))
  k_steps
  all_goals ((rename Fr _ _ _ _ => kF); (rename News _ _ _ _ => kN))
  all_goals first | exact absurd (by assumption) hf0 | (refine fin_bool ?_ (hret _ _ kF (cb_drop kN fun q hq => .tail _ hq)); have C := div_core hB0 p1 p3 hT hN g1 g2 g3 g4 g5 gc; simp only [decide_eq_true_eq, beq_iff_eq]; obtain ⟨C1, C2⟩ := C; clear hT hN g1 g2 g3 g4 g5 gc; first | exact C1 (by assumption) (by assumption) | assumption | ((have C3 := C2 (by rintro ⟨q1, q2⟩; first | exact absurd q1 (by assumption) | exact absurd q2 (by assumption) | omega)); first | assumption | (rcases C3 with C3 | ⟨C3, C4⟩ <;> first | assumption | exact absurd C3 (by assumption)) | omega))
end
end Mine
end
section
open PySem PySem.W PyProof.Rows PySem.Calls
set_option maxRecDepth 100000
namespace Mine
section
variable {w : World} {p : Program} {loose : List Str} {mean : ExcName → Option Value} {mg mb : Str → Option Value} {dp un : Nat} {gd : Option (List Code)} {cn : Str} {cs : Scope} {a : Addr} {ccd : Value} {cl : List (Str × Addr)} {outer : List Env} {A₀ : Around} {base h₀ : Heap} {L : Addr} {m : Str → Option Value} {s : Shared} {Q E : Value → Shared → Prop} {news : List (Addr × Obj)}
set_option maxHeartbeats 1000000 in
theorem all_c {sc : Addr} {vs : List Value} {xs : List Int} (B : Below A₀ base outer h₀) (F : Fr h₀ L s.heap m) (X : (hd.heap_39 w.params).In h₀) (N : News h₀ L s.heap news) (T : Top p loose mean mg mb h₀) (hk : cs.kind = .function)
    (hl : h₀.IsList sc vs.toArray) (hi : IntsAre vs xs) (hlen : xs.length ≤ 63)
    (hd : dp + 8 < recursionLimit) (hu : un + 160 < cLine)
    (hret : ∀ v t h' tk', Fr h₀ L h' m → News h₀ L h' news → Q (.int v t) { s with heap := h', toks := tk' }) :
    wpAny (model PySem.Challenge.rw_pq0158_01.row.prog w) (ktrTop dp un gd cn cs L a ccd cl outer) (call (.ref 100) [.ref sc]) Q E s := by
  w_top off
  k_with_none
  (k_with "binaryOp FloorDiv int int" => (k_here; k_dflt (refine' floordiv_int ?zyhb ?_ (Or.inl (PyProof.noPylong_of_log2 (big_log ?zyh1 ?zyh2))); (case zyhb => omega); (case zyh1 => omega); (case zyh2 => omega))))
  (k_with "call builtin:abs" => ((with_reducible refine abs_ab ?_); intro _ _))
  have hK : (PySem.Challenge.rw_pq0158_01 = PySem.Challenge.rw_pq0158_01 ∧ Mine.hd.heap_39 = Mine.hd.heap_39) := by
    k_fill
    exact ⟨rfl, rfl⟩
  clear hK
  refine wpAny_call ?_
  k_dflt ktr_enter
  have hl2 := Fr.lst (by assumption) hl
  (k_with "pyIter ref" => k_invariant "found" (fun (a : Int) => True))
  k_steps
  (rename Fr _ _ _ _ => kF); (rename News _ _ _ _ => kN)
  exact hret _ _ _ _ kF (cb_drop kN fun q hq => .tail _ (.tail _ hq))
end
end Mine
end
section
open PySem PySem.W PyProof.Rows PySem.Calls PyProof.V PySem.Spec
set_option maxRecDepth 100000
namespace Mine
@[irreducible] def mxi (b : Int) : Int := if b > 0 then b else 0
theorem mxi_eq (b : Int) : mxi b = if b > 0 then b else 0 := by unfold mxi; rfl
theorem mxi_bd {b k : Int} (h : b ≤ k) (hk : 0 ≤ k) : 0 ≤ mxi b ∧ mxi b ≤ k := by rw [mxi_eq]; split <;> omega
section
variable {prog : Program} {w : World} {A : Around} {E : Value → Shared → Prop} {s : Shared} {h₀ : Heap} {L : Addr} {m : Str → Option Value} {news : List (Addr × Obj)} {Q : Value → Shared → Prop}
theorem max_mx {b : Int} {t u : Tok} (hh : A.handled = none) (F : Fr h₀ L s.heap m) (N : News h₀ L s.heap news) (h : ∀ v h' tk, Fr h₀ L h' m → News h₀ L h' news → Q (.int (mxi b) v) { s with heap := h', toks := tk }) :
    wpAny (model prog w) A (call (.builtin "max") [.int 0 t, .int b u]) Q E s := by
  refine max_two_N hh F N fun h' tk F' N' => ?_
  have := h (if b > 0 then u else t) h' tk F' N'
  rwa [mxi_eq] at this
theorem pow_gen {a n : Int} {t u : Tok} (hn : 0 ≤ n) (hn2 : n ≤ 1000000) (ha : a.natAbs < 2 ^ 64) (h : ∀ z v tk, z = a ^ n.toNat → Q (.int z v) { s with toks := tk }) : wpAny (model prog w) A (binaryOp .Pow (.int a t) (.int n u)) Q E s :=
  pow_int_small hn hn2 ha (h _ _ _ rfl)
theorem le_true {a b : Int} {t u : Tok} (hle : a ≤ b) (h : Q (.bool true) s) : wpAny (model prog w) A (compareOp .LtE (.int a t) (.int b u)) Q E s := by
  refine le_int ?_
  rw [decide_eq_true hle]
  exact h
theorem ne_same {x y : Addr} {a0 a1 b0 b1 : Int} {t u t' u' : Tok} {c c' : Nat} (N : News h₀ L s.heap news) (hx : (x, tup2 a0 t a1 u c) ∈ news) (hy : (y, tup2 b0 t' b1 u' c') ∈ news) (hu : A.units + 64 < cLine) (e0 : a0 = b0) (e1 : a1 = b1)
    (h : Q (.bool false) s) : wpAny (model prog w) A (compareOp .NotEq (.ref x) (.ref y)) Q E s := by
  subst e0 e1
  exact ne_t2 N hx hy hu (by simpa using h)
end
theorem sqb {x : Int} {k : Int} (h0 : 0 ≤ x) (h : x ≤ k) : x ^ Int.toNat 2 ≤ k * k ∧ 0 ≤ x ^ Int.toNat 2 := by
  have e : x ^ Int.toNat 2 = x * x := sq_def x
  rw [e]
  exact ⟨sq_le h0 h, Int.mul_nonneg h0 h0⟩
end Mine
end
section
open PySem PySem.W PyProof.Rows PySem.Calls
set_option maxRecDepth 100000
namespace Mine
section
variable {w : World} {p : Program} {loose : List Str} {mean : ExcName → Option Value} {mg mb : Str → Option Value} {dp un : Nat} {gd : Option (List Code)} {cn : Str} {cs : Scope} {a : Addr} {ccd : Value} {cl : List (Str × Addr)} {outer : List Env} {A₀ : Around} {base h₀ : Heap} {L : Addr} {m : Str → Option Value} {s : Shared} {Q E : Value → Shared → Prop} {news : List (Addr × Obj)}
set_option maxHeartbeats 400000 in
theorem rootr_c {a0 a1 f0 f1 d : Int} {x z : Addr} {t1 t2 t3 t4 t5 t6 t7 : Tok} {n1 n2 n3 : Nat} (B : Below A₀ base outer h₀) (F : Fr h₀ L s.heap m) (X : (hd.heap_39 w.params).In h₀) (N : News h₀ L s.heap news) (T : Top p loose mean mg mb h₀) (hk : cs.kind = .function)
    (hx : (x, tup2 a0 t1 a1 t2 n1) ∈ news) (hz : (z, tup2 f0 t5 f1 t6 n3) ∈ news)
    (hd1 : 1 ≤ d) (hd2 : d ≤ 6) (ha0 : 0 < a0) (ha1 : a0 < 1000000)
    (hD : RootIs a0 a1 d f0 f1)
    (hd : dp + 8 < recursionLimit) (hu : un + 160 < cLine)
    (hret : ∀ h' tk', Fr h₀ L h' m → News h₀ L h' news → Q (.bool true) { s with heap := h', toks := tk' }) :
    wpAny (model PySem.Challenge.rw_pq0158_01.row.prog w) (ktrTop dp un gd cn cs L a ccd cl outer) (call (.ref 142) [.ref x, .ref z, .int d t7]) Q E s := by
  w_top off
  k_with_none
  (k_with "binaryOp FloorDiv int int" => (k_here; k_dflt (refine' floordiv_int ?zyhb ?_ (Or.inl (PyProof.noPylong_of_log2 (big_log ?zyh1 ?zyh2))); (case zyhb => omega); (case zyh1 => omega); (case zyh2 => omega))))
  (k_with "call builtin:abs" => ((with_reducible refine abs_ab ?_); intro _ _))
  (k_with "subscriptTail Name Constant ref int" => (k_here; (with_reducible show wpAny _ _ (subscriptTail _ _ (Value.ref _) (Value.int _ _)) _ _ _); (with_unfolding_all refine' t2_i ?zyN ?zyhm ?zyh0 ?zyh1 ?zyhv ?_ ?zyhs; (case zyN => k_asm); (case zyhm => with_reducible (first | assumption | exact List.mem_cons_self | (refine List.mem_cons_of_mem _ ?_; (first | assumption | exact List.mem_cons_self | (refine List.mem_cons_of_mem _ ?_; (first | assumption | exact List.mem_cons_self | (refine List.mem_cons_of_mem _ ?_; (first | assumption | exact List.mem_cons_self | (refine List.mem_cons_of_mem _ ?_; (first | assumption | exact List.mem_cons_self | (refine List.mem_cons_of_mem _ ?_; (first | assumption | exact List.mem_cons_self)))))))))))); (case zyh0 => decide); (case zyh1 => decide); (case zyhv => exact rfl); (case zyhs => with_unfolding_all rfl); k_whole)))
  (k_with "compareOp Eq ref ref" => (k_here; (with_reducible show wpAny _ _ (compareOp _ (Value.ref _) (Value.ref _)) _ _ _); (with_unfolding_all refine' eq_t2 ?zyN ?zyhx ?zyhy ?zyhu ?_; (case zyN => k_asm); (case zyhx => with_reducible (first | assumption | exact List.mem_cons_self | (refine List.mem_cons_of_mem _ ?_; (first | assumption | exact List.mem_cons_self | (refine List.mem_cons_of_mem _ ?_; (first | assumption | exact List.mem_cons_self | (refine List.mem_cons_of_mem _ ?_; (first | assumption | exact List.mem_cons_self | (refine List.mem_cons_of_mem _ ?_; (first | assumption | exact List.mem_cons_self | (refine List.mem_cons_of_mem _ ?_; (first | assumption | exact List.mem_cons_self)))))))))))); (case zyhy => with_reducible (first | assumption | exact List.mem_cons_self | (refine List.mem_cons_of_mem _ ?_; (first | assumption | exact List.mem_cons_self | (refine List.mem_cons_of_mem _ ?_; (first | assumption | exact List.mem_cons_self | (refine List.mem_cons_of_mem _ ?_; (first | assumption | exact List.mem_cons_self | (refine List.mem_cons_of_mem _ ?_; (first | assumption | exact List.mem_cons_self | (refine List.mem_cons_of_mem _ ?_; (first | assumption | exact List.mem_cons_self)))))))))))); (case zyhu => ktr_units); k_whole)))
  (k_with "compareOp NotEq ref ref" => (k_here; (with_reducible show wpAny _ _ (compareOp _ (Value.ref _) (Value.ref _)) _ _ _); (with_unfolding_all refine' ne_t2 ?zyN ?zyhx ?zyhy ?zyhu ?_; (case zyN => k_asm); (case zyhx => with_reducible (first | assumption | exact List.mem_cons_self | (refine List.mem_cons_of_mem _ ?_; (first | assumption | exact List.mem_cons_self | (refine List.mem_cons_of_mem _ ?_; (first | assumption | exact List.mem_cons_self | (refine List.mem_cons_of_mem _ ?_; (first | assumption | exact List.mem_cons_self | (refine List.mem_cons_of_mem _ ?_; (first | assumption | exact List.mem_cons_self | (refine List.mem_cons_of_mem _ ?_; (first | assumption | exact List.mem_cons_self)))))))))))); (case zyhy => with_reducible (first | assumption | exact List.mem_cons_self | (refine List.mem_cons_of_mem _ ?_; (first | assumption | exact List.mem_cons_self | (refine List.mem_cons_of_mem _ ?_; (first | assumption | exact List.mem_cons_self | (refine List.mem_cons_of_mem _ ?_; (first | assumption | exact List.mem_cons_self | (refine List.mem_cons_of_mem _ ?_; (first | assumption | exact List.mem_cons_self | (refine List.mem_cons_of_mem _ ?_; (first | assumption | exact List.mem_cons_self)))))))))))); (case zyhu => ktr_units); k_whole)))
  (k_with "call ref" => (k_here; k_dflt (refine' shape_c ?zyk1 ?zyk2 ?zyk3 ?zyk4 ?zyk5 ?zykK ?zykx ?zykp ?zykq ?zys1 ?zys2 ?zys3 ?zys4 ?zykd ?zyku ?_; (case zyk1 => k_asm); (case zyk2 => k_asm); (case zyk3 => k_asm); (case zyk4 => k_asm); (case zyk5 => k_asm); (case zykK => first | exact rfl | assumption); (case zykx => with_reducible (first | assumption | exact List.mem_cons_self | (refine List.mem_cons_of_mem _ ?_; (first | assumption | exact List.mem_cons_self | (refine List.mem_cons_of_mem _ ?_; (first | assumption | exact List.mem_cons_self | (refine List.mem_cons_of_mem _ ?_; (first | assumption | exact List.mem_cons_self | (refine List.mem_cons_of_mem _ ?_; (first | assumption | exact List.mem_cons_self | (refine List.mem_cons_of_mem _ ?_; (first | assumption | exact List.mem_cons_self)))))))))))); (case zykp => omega); (case zykq => omega); (case zys1 => assumption); (case zys2 => assumption); (case zys3 => assumption); (case zys4 => assumption); (case zykd => ktr_room); (case zyku => ktr_units)); intro h9 tk9 F9 N9; (try dsimp only); (try k_fold)))
  (k_with "call ref" => (k_here; k_dflt (refine' grown_c ?zyk1 ?zyk2 ?zyk3 ?zyk4 ?zyk5 ?zykK ?zykx ?zykp ?zykq ?zys3 ?zys4 ?zykd ?zyku ?_; (case zyk1 => k_asm); (case zyk2 => k_asm); (case zyk3 => k_asm); (case zyk4 => k_asm); (case zyk5 => k_asm); (case zykK => first | exact rfl | assumption); (case zykx => with_reducible (first | assumption | exact List.mem_cons_self | (refine List.mem_cons_of_mem _ ?_; (first | assumption | exact List.mem_cons_self | (refine List.mem_cons_of_mem _ ?_; (first | assumption | exact List.mem_cons_self | (refine List.mem_cons_of_mem _ ?_; (first | assumption | exact List.mem_cons_self | (refine List.mem_cons_of_mem _ ?_; (first | assumption | exact List.mem_cons_self | (refine List.mem_cons_of_mem _ ?_; (first | assumption | exact List.mem_cons_self)))))))))))); (case zykp => omega); (case zykq => omega); (case zys3 => assumption); (case zys4 => assumption); (case zykd => ktr_room); (case zyku => ktr_units)); k_extra "g1"; (try dsimp only); (try k_fold)))
  (k_with "call builtin:max" => (k_here; (with_reducible show wpAny _ _ (call (Value.builtin _) [Value.int _ _, Value.int _ _]) _ _ _); (with_unfolding_all refine' max_mx ?zyhh ?zyF ?zyN ?_; (case zyhh => with_unfolding_all rfl); (case zyF => k_asm); (case zyN => k_asm)); intro _ _ _ _ _))
  (k_with "binaryOp Pow int int" => (k_here; (with_reducible refine pow_gen ?zykb1 ?zykb2 ?zykb3 ?_); (case zykb1 => omega); (case zykb2 => omega); (case zykb3 => omega); intro z8 v8 tk8 e8))
  have hK : (PySem.Challenge.rw_pq0158_01 = PySem.Challenge.rw_pq0158_01 ∧ Mine.hd.heap_39 = Mine.hd.heap_39) := by
    k_fill
    exact ⟨rfl, rfl⟩
  clear hK
  have hp6 : (10 : Int) ^ d.toNat ≤ 1000000 := pow10_mil hd2
  obtain ⟨hfs, hfa, hf3', hf1, _⟩ := root_ok (size := 0) (power := 0) ha0 ha1 hd1 hd2 hD
  have hf2 : 0 < ab f0 := (by omega)
  have hf3 : ab f0 < 10 ^ d.toNat := (by omega)
  have hf0 : f0 ≠ 0 := (by omega)
  refine wpAny_call ?_
  k_dflt ktr_enter
  (k_with "le" => (first | with_reducible exact (C1 (by first | assumption | rfl)).1 | with_reducible exact (C1 (by first | assumption | rfl)).2 | with_reducible exact (C2 (by assumption)).1 | with_reducible exact (C2 (by assumption)).2))
  (k_with "g1" => (intro sz ex D9 u9 v9 n9 h9 tk9 G9 F9 N9 l9; have o5 := (root_ok (size := sz) (power := ex) ha0 ha1 hd1 hd2 hD).2.2.2.2 G9; obtain ⟨⟨G1, G2, G0⟩, G5⟩ := G9; clear G0; obtain ⟨Pp, kk, RR, UU, NN, p0, p1, p2, p3, p4, hU, hN, g1, g2, g5, gc⟩ := o5; have M0 := bd_r p1 p2 p3 p4 gc; have M1 := mxi_bd (b := 2 * ex - a1) (k := 100) M0.1 (by decide); have M2 := mxi_bd (b := 0 - (2 * ex - a1)) (k := 100) M0.2 (by decide); clear M0; have C := root_core p0 p1 p3 hU hN g1 g2 g5 gc; clear hU hN g1 g2 g5 gc; have H5 := sqb (x := 2 * sz - 1) (k := 10000000) (by omega) (by omega); have H6 := sqb (x := 2 * sz + 1) (k := 10000000) (by omega) (by omega); have H7 := sqb (x := 20 * sz - 1) (k := 100000000) (by omega) (by omega); obtain ⟨C1, C2⟩ := C; rw [← sq_def, ← sq_def, ← mxi_eq, ← mxi_eq] at C1 C2))
  k_steps
  all_goals ((rename Fr _ _ _ _ => kF); (rename News _ _ _ _ => kN); subst_vars)
  all_goals (refine fin_bool (decide_eq_true ?_) (hret _ _ kF (cb_drop kN fun q hq => .tail _ hq)))
  all_goals first | exact (C1 (by first | assumption | rfl)).2 | exact (C1 (by first | assumption | rfl)).1 | exact (C2 (by assumption)).2 | exact (C2 (by assumption)).1
end
end Mine
end
section
open PySem PySem.W PyProof.Rows PySem.Calls PySem.Spec
namespace Mine
def TurnC (h₀ : Heap) (L : Addr) (R : (Str → Option Value) → List (Addr × Obj) → Prop) (I : Addr) (oI : Obj) (s₁ : Shared) (Q : Flow → Shared → Prop) (f : Flow) (s₂ : Shared) : Prop :=
  match f with
  | .ret v => Q (.ret v) s₂
  | .brk => Q .next s₂
  | _ => ∃ h' tk m' nx', s₂ = { s₁ with heap := h', toks := tk } ∧ Fr h₀ L h' m' ∧ News h₀ L h' ((I, oI) :: nx') ∧ (∀ p ∈ nx', p.1 ≠ I) ∧ R m' nx'
section
variable {prog : Program} {w : World} {A : Around} {E : Value → Shared → Prop} {s : Shared} {env : Env} {h₀ : Heap} {x : Str} {body : List Stmt} {Q : Flow → Shared → Prop}
theorem iter_rangeC {L : Addr} {r : Addr} {a₀ b₀ : Int} {t₀ u₀ v₀ : Tok} {n : Nat} {m₀ : Str → Option Value} {news : List (Addr × Obj)}
    (R : (Str → Option Value) → List (Addr × Obj) → Prop)
    (hl : env.locals = L) (hh : A.handled = none) (hr : IsRange s.heap r a₀ b₀ 1 t₀ u₀ v₀) (hsmall : Builtin.Range.small a₀ b₀ 1 = true) (hn : Builtin.Range.rangeSize a₀ b₀ 1 = (n : Int)) (F : Fr h₀ L s.heap m₀) (N : News h₀ L s.heap news) (hR : R m₀ news)
    (turn : ∀ I oI k t m₁ nx h tk, (∀ p ∈ nx, p.1 ≠ I) → R m₁ nx → Fr h₀ L h (fun y => if y = x then some (.int k t) else m₁ y) → News h₀ L h ((I, oI) :: nx) →
      wpAny (model prog w) A (execs body env) (TurnC h₀ L R I oI { s with heap := h, toks := tk } Q) E { s with heap := h, toks := tk })
    (done : ∀ m₁ nx h tk, R m₁ nx → Fr h₀ L h m₁ → News h₀ L h nx → Q .next { s with heap := h, toks := tk }) :
    wpAny (model prog w) A (pyIter (.ref r)) (fun it s₂ => LoopAtV prog w A h₀ env x body Q E it s₂) E s := by
  subst hl
  refine wpAny_pyIter_range hr hsmall ?_
  have W : Walks prog w A s.heap.objs.size [s.heap.objs.size] [s.heap.objs.size] n (fun i v => i < n ∧ ∃ t, v = .int (a₀ + i * 1) t)
      (fun i h => IsRangeIter h s.heap.objs.size (a₀ + (i : Nat) * 1) ((n : Int) - (i : Nat)) 1) := (Walks.range hh _ a₀ 1 n).bound
  refine ⟨s.heap.objs.size, _, _, n, _, _, m₀, news, fun _ m nx => R m nx, rfl, W, ?_, ?_, ?_, (by show IsRangeIter _ _ _ _ _; rw [hn]; simpa using Heap.get?_push_size _ rfl), (F.push _), (fun p hp => ⟨Heap.get?_push_of_some _ (N p hp).1, (N p hp).2⟩), hR, ?_, ?_⟩
  · intro hm
    exact absurd F.ns.lt ((List.mem_singleton.mp hm) ▸ Nat.lt_irrefl _)
  · intro b hb
    rw [List.mem_singleton.mp hb]
    exact next_is_new F
  · intro p hp hI
    exact absurd (Heap.lt_size (N p hp).1) ((List.mem_singleton.mp hI) ▸ Nat.lt_irrefl _)
  · rintro i v m₁ news₁ s₁ own ⟨hh', tk', rfl⟩ hin ⟨_, t, rfl⟩ hJ hoff hown hget hlive hst F₁ N₁
    obtain ⟨oI, hoI⟩ : ∃ oI, hh'.get? s.heap.objs.size = some oI := by
      have h5 : IsRangeIter hh' _ _ _ _ := hst
      unfold IsRangeIter at h5
      exact ⟨_, h5⟩
    have hmem : (s.heap.objs.size, oI) ∈ own := hlive _ (List.mem_singleton.mpr rfl) (next_is_new F) oI hoI
    have hone : ∀ p ∈ own, p = (s.heap.objs.size, oI) := fun p hp => by
      have h1 := List.mem_singleton.mp (hown p hp)
      have h2 := hget p hp
      rw [h1, hoI] at h2
      cases p; simp only [Option.some.injEq] at h1 h2 ⊢; simp [h1, h2]
    refine wpAny_mono (turn s.heap.objs.size oI _ t m₁ news₁ hh' tk' (fun p hp e => hoff p hp (List.mem_singleton.mpr e)) hJ F₁ (fun p hp => N₁ p ?_)) (fun f s₂ p => ?_) fun _ _ e => e
    · rcases List.mem_cons.mp hp with rfl | hp
      · exact List.mem_append_left _ hmem
      · exact List.mem_append_right _ hp
    have fin : (∃ h' tk m' nx', s₂ = { s with heap := h', toks := tk } ∧ Fr h₀ env.locals h' m' ∧ News h₀ env.locals h' ((s.heap.objs.size, oI) :: nx') ∧ (∀ p ∈ nx', p.1 ≠ s.heap.objs.size) ∧ R m' nx') → LoopStepU h₀ env.locals [s.heap.objs.size] own R { s with heap := hh', toks := tk' } .next s₂ := by
      rintro ⟨h', tk, m', nx, e, F', N', hn, hm⟩
      refine ⟨rfl, h', tk, m', nx, e, F', fun p hp => N' p ?_, fun p hp hq => hn p hp (List.mem_singleton.mp hq), hm⟩
      rcases List.mem_append.mp hp with hp | hp
      · rw [hone p hp]; exact .head _
      · exact .tail _ hp
    cases f with
    | ret v => exact .ret p
    | brk => exact .brk p
    | next => exact .next (fin p)
    | cont => exact .cont (fin p)
  · rintro h' tk m' news' F' N' _ hJ
    exact done m' news' h' tk hJ F' N'
end
def Sub (a b : List (Addr × Obj)) : Prop := ∀ p ∈ a, p ∈ b
theorem Sub.refl (a : List (Addr × Obj)) : Sub a a := fun _ h => h
theorem Sub.tail {a b : List (Addr × Obj)} {x : Addr × Obj} (h : Sub a b) : Sub a (x :: b) := fun p hp => .tail _ (h p hp)
theorem Sub.app {a b n : List (Addr × Obj)} (h : Sub a b) : Sub a (n ++ b) := fun p hp => List.mem_append_right _ (h p hp)
theorem Sub.mem {a b : List (Addr × Obj)} {x : Addr × Obj} (h : Sub a b) (hx : x ∈ a) : x ∈ b := h x hx
def TabOk (qual : Str) (ps : Array Value) (news : List (Addr × Obj)) : Prop :=
  TriplesOk ps.toList ∧ ∀ pos cv, codeAmong pos ps.toList = some cv → ∃ c oc vs t, cv = .ref c ∧ (c, oc) ∈ news ∧ oc.data = .fields vs ∧ vs[1]? = some (.str qual t)
theorem TabOk.nil (qual : Str) (news : List (Addr × Obj)) : TabOk qual #[] news := ⟨trivial, fun pos cv h => by cases h⟩
theorem TabOk.sub {qual : Str} {ps : Array Value} {n n' : List (Addr × Obj)} (h : TabOk qual ps n) (hs : ∀ p ∈ n, p ∈ n') : TabOk qual ps n' :=
  ⟨h.1, fun pos cv e => let ⟨c, oc, vs, t, e1, e2, e3⟩ := h.2 pos cv e; ⟨c, oc, vs, t, e1, hs _ e2, e3⟩⟩
theorem codeAmong_snoc' {pos : Pos} {a b : Int} {c cv : Value} : ∀ (l : List Value), TriplesOk l → codeAmong pos (l ++ [rawInt a, rawInt b, c]) = some cv → codeAmong pos l = some cv ∨ cv = c := by
  intro l h
  fun_induction TriplesOk l with
  | case1 =>
    intro e
    simp only [List.nil_append, codeAmong, rawInt] at e
    split at e
    · exact .inr (Option.some.inj e).symm
    · cases e
  | case2 a' t b' u x rest ih =>
    intro e
    simp only [List.cons_append, codeAmong] at e ⊢
    split at e
    · rename_i hc; rw [if_pos hc]; exact .inl e
    · rename_i hc; rw [if_neg hc]; exact ih h e
  | case3 l h1 h2 => exact h.elim
section
variable {M : Model} {A : Around} {E : Value → Shared → Prop} {s : Shared} {h₀ : Heap} {L a c P : Addr} {m mg mb : Str → Option Value} {cn : Str} {cs : Scope} {ccd : Value} {cl : List (Str × Addr)} {news cods : List (Addr × Obj)}
  {p : Program} {loose : List Str} {mean : ExcName → Option Value} {name qual : Str} {params : Arguments} {body : Expr} {scope : Scope} {ps : Array Value} {pos : Pos} {firstLine : Nat} {clos : List (Str × Addr)}
theorem kla_any {Q : Value → Shared → Prop} (F : Fr h₀ L s.heap m) (N : News h₀ L s.heap ((P, tabObj ps) :: news)) (T : Top p loose mean mg mb h₀) (C : CodeHd h₀ c P) (hcd : ccd = .ref c) (hne : ∀ q ∈ news, q.1 ≠ P) (ht : TabOk qual ps cods) (hs : Sub cods news)
    (hcl : closureFor scope (envX cn cs L a ccd cl) = pure clos)
    (h : ∀ f c' oc vs t ctv h' tk ps' (new : List (Addr × Obj)), Fr h₀ L h' m →
      News h₀ L h' ((f, kla_obj name qual params body scope clos ((mg "__name__").getD .none) c' ctv) :: (P, tabObj ps') :: (new ++ news)) →
      oc.data = .fields vs → vs[1]? = some (.str qual t) → (c', oc) ∈ new ++ news → TabOk qual ps' (new ++ cods) → Sub (new ++ cods) (new ++ news) → (∀ q ∈ new, P < q.1 ∧ ∀ r ∈ news, r.1 < q.1) → P < f → (∀ q ∈ news, q.1 < f) → (∀ q ∈ new, q.1 < f) → Q (.ref f) { s with heap := h', toks := tk }) :
    wpAny M A (makeFunction name qual params (.expr body) scope (envX cn cs L a ccd cl) [] [] [] pos firstLine) Q E s := by
  cases e : codeAmong pos ps.toList with
  | none =>
    refine kla_nest F N T C hcd (.head hne) ht.1 e hcl fun f c' oc vs t ctv h' tk F' N' d1 d2 l1 l2 => ?_
    have hl : ∀ q ∈ news, q.1 < c' := fun q hq => l1 q (.tail _ hq)
    have hp : P < c' := l1 _ (.head _)
    refine h f c' oc vs t ctv h' tk (ps ++ #[rawInt pos.line, rawInt pos.col, .ref c']) [(c', oc)] F' (fun q hq => N' q ?_) d1 d2 (.head _) ⟨?_, ?_⟩ (fun q hq => (List.mem_cons.mp hq).elim (fun e => e ▸ .head _) fun hq => .tail _ (hs q hq)) ?_ (Nat.lt_trans hp l2) (fun q hq => Nat.lt_trans (hl q hq) l2) ?_
    · rcases List.mem_cons.mp hq with rfl | hq
      · exact .head _
      rcases List.mem_cons.mp hq with rfl | hq
      · exact .tail _ (.tail _ (.head _))
      rcases List.mem_cons.mp hq with rfl | hq
      · exact .tail _ (.head _)
      · exact .tail _ (.tail _ (.tail _ hq))
    · rw [Array.toList_append]; exact TriplesOk_snoc _ _ _ _ ht.1
    · intro pos' cv he
      rw [Array.toList_append] at he
      rcases codeAmong_snoc' _ ht.1 he with he | rfl
      · obtain ⟨c2, oc2, vs2, t2, e1, e2, e3⟩ := ht.2 pos' cv he
        exact ⟨c2, oc2, vs2, t2, e1, List.mem_cons_of_mem _ e2, e3⟩
      · exact ⟨c', oc, vs, t, rfl, .head _, d1, d2⟩
    · intro q hq
      rw [List.mem_singleton.mp hq]
      exact ⟨hp, hl⟩
    · intro q hq
      rw [List.mem_singleton.mp hq]
      exact l2
  | some cv =>
    obtain ⟨c', oc, vs, t, rfl, e2, e3, e4⟩ := ht.2 pos cv e
    refine kla_hit F N T C hcd (.head _) ht.1 e hcl fun f ctv h' tk F' N' l1 => ?_
    exact h f c' oc vs t ctv h' tk ps [] F' N' e3 e4 (hs _ e2) ht hs (fun q hq => nomatch hq) (l1 _ (.head _)) (fun q hq => l1 q (.tail _ hq)) (fun q hq => nomatch hq)
end
end Mine
end
section
open PySem PySem.W PyProof.Rows PySem.Calls PySem.Spec
namespace Mine
inductive Pull (P : Addr) (o : Obj) : List (Addr × Obj) → List (Addr × Obj) → Prop
  | head {r} : (∀ p ∈ r, p.1 ≠ P) → Pull P o ((P, o) :: r) r
  | tail {p r r'} : p.1 ≠ P → Pull P o r r' → Pull P o (p :: r) (p :: r')
  | app {n r r'} : (∀ p ∈ n, p.1 ≠ P) → Pull P o r r' → Pull P o (n ++ r) (n ++ r')
theorem Pull.fwd {P : Addr} {o : Obj} {l l' : List (Addr × Obj)} (h : Pull P o l l') : (P, o) ∈ l ∧ (∀ p ∈ l', p ∈ l) ∧ (∀ p ∈ l, p ∈ (P, o) :: l') ∧ ∀ p ∈ l', p.1 ≠ P := by
  induction h with
  | head h => exact ⟨.head _, fun p hp => .tail _ hp, fun p hp => hp, h⟩
  | tail hn _ ih =>
    obtain ⟨a, b, c, d⟩ := ih
    refine ⟨.tail _ a, fun p hp => ?_, fun p hp => ?_, fun p hp => ?_⟩
    · rcases List.mem_cons.mp hp with rfl | hp
      · exact .head _
      · exact .tail _ (b p hp)
    · rcases List.mem_cons.mp hp with rfl | hp
      · exact .tail _ (.head _)
      · rcases List.mem_cons.mp (c p hp) with rfl | hp
        · exact .head _
        · exact .tail _ (.tail _ hp)
    · rcases List.mem_cons.mp hp with rfl | hp
      · exact hn
      · exact d p hp
  | app hn _ ih =>
    obtain ⟨a, b, c, d⟩ := ih
    refine ⟨List.mem_append_right _ a, fun p hp => ?_, fun p hp => ?_, fun p hp => ?_⟩
    · rcases List.mem_append.mp hp with hp | hp
      · exact List.mem_append_left _ hp
      · exact List.mem_append_right _ (b p hp)
    · rcases List.mem_append.mp hp with hp | hp
      · exact .tail _ (List.mem_append_left _ hp)
      · rcases List.mem_cons.mp (c p hp) with rfl | hp
        · exact .head _
        · exact .tail _ (List.mem_append_right _ hp)
    · rcases List.mem_append.mp hp with hp | hp
      · exact hn p hp
      · exact d p hp
theorem Pull.news {P : Addr} {o : Obj} {l l' : List (Addr × Obj)} {h₀ h : Heap} {L : Addr} (x : Pull P o l l') (N : News h₀ L h l) : News h₀ L h ((P, o) :: l') := fun p hp => N p (by
  rcases List.mem_cons.mp hp with rfl | hp
  · exact x.fwd.1
  · exact x.fwd.2.1 p hp)
theorem Pull.ne {P : Addr} {o : Obj} {l l' : List (Addr × Obj)} (x : Pull P o l l') : ∀ p ∈ l', p.1 ≠ P := x.fwd.2.2.2
theorem Pull.back {P : Addr} {o : Obj} {l l' : List (Addr × Obj)} (x : Pull P o l l') : ∀ p ∈ l, p = (P, o) ∨ p ∈ l' := fun p hp => List.mem_cons.mp (x.fwd.2.2.1 p hp)
def Off (adr : List Addr) (l : List (Addr × Obj)) : Prop := ∀ p ∈ l, ∀ b ∈ adr, p.1 ≠ b
inductive Has (l : List (Addr × Obj)) : List Addr → Prop
  | nil : Has l []
  | cons {b o adr} : (b, o) ∈ l → Has l adr → Has l (b :: adr)
theorem Has.get {l : List (Addr × Obj)} {adr : List Addr} (h : Has l adr) : ∀ b ∈ adr, ∃ o, (b, o) ∈ l := by
  induction h with
  | nil => intro b hb; nomatch hb
  | cons h1 _ ih =>
    intro b hb
    rcases List.mem_cons.mp hb with rfl | hb
    · exact ⟨_, h1⟩
    · exact ih b hb
theorem Off.cons {adr : List Addr} {l : List (Addr × Obj)} {b : Addr} (h1 : ∀ p ∈ l, p.1 ≠ b) (h : Off adr l) : Off (b :: adr) l := fun p hp c hc => by
  rcases List.mem_cons.mp hc with rfl | hc
  · exact h1 p hp
  · exact h p hp c hc
theorem Off.ne {adr : List Addr} {l : List (Addr × Obj)} {b : Addr} (h : Off adr l) (hb : b ∈ adr) : ∀ p ∈ l, p.1 ≠ b := fun p hp => h p hp b hb
section
variable {M : Model} {A : Around} {E : Value → Shared → Prop} {s : Shared} {h₀ : Heap} {L a c P : Addr} {m mg mb : Str → Option Value} {cn : Str} {cs : Scope} {ccd : Value} {cl : List (Str × Addr)} {news news' cods : List (Addr × Obj)}
  {p : Program} {loose : List Str} {mean : ExcName → Option Value} {qual : Str} {params : Arguments} {body : Expr} {scope : Scope} {ps : Array Value} {pos : Pos} {clos : List (Str × Addr)} {adr : List Addr}
theorem kla_p {Q : Value → Shared → Prop} (F : Fr h₀ L s.heap m) (N : News h₀ L s.heap news) (T : Top p loose mean mg mb h₀) (C : CodeHd h₀ c P) (hcd : ccd = .ref c) (hp : Pull P (tabObj ps) news news') (ht : TabOk qual ps cods) (hs : Sub cods news') (ho : Off adr cods) (ha : Has news adr)
    (hdef : defaultsOf params (envX cn cs L a ccd cl) = ([], [])) (hq : (envX cn cs L a ccd cl).qual ++ "<lambda>" = qual)
    (hcl : closureFor scope (envX cn cs L a ccd cl) = pure clos)
    (h : ∀ f c' oc vs t ctv h' tk ps' (new : List (Addr × Obj)), Fr h₀ L h' m →
      News h₀ L h' ((f, kla_obj "<lambda>" qual params body scope clos ((mg "__name__").getD .none) c' ctv) :: (P, tabObj ps') :: (new ++ news')) →
      oc.data = .fields vs → vs[1]? = some (.str qual t) → (c', oc) ∈ new ++ news' → TabOk qual ps' (new ++ cods) → Sub (new ++ cods) (new ++ news') → Off adr (new ++ cods) → (∀ q ∈ new ++ news', q.1 ≠ P) → @LT.lt Nat _ P f → (∀ q ∈ new ++ news', q.1 < f) → Q (.ref f) { s with heap := h', toks := tk }) :
    wpAny M A (eval (.Lambda params body scope pos) (envX cn cs L a ccd cl)) Q E s := by
  subst hq
  refine kla_eval hdef ?_
  refine kla_any (news := news') (cods := cods) F (hp.news N) T C hcd hp.ne ht hs hcl fun f c' oc vs t ctv h' tk ps' new F' N' d1 d2 e1 e2 e3 l1 l2 l3 l4 => ?_
  refine h f c' oc vs t ctv h' tk ps' new F' N' d1 d2 e1 e2 e3 ?_ ?_ l2 ?_
  · intro q hq b hb
    rcases List.mem_append.mp hq with hq | hq
    · obtain ⟨o, hbo⟩ := ha.get b hb
      refine Nat.ne_of_gt ?_
      rcases hp.back _ hbo with e | hbo
      · cases e; exact (l1 q hq).1
      · exact (l1 q hq).2 _ hbo
    · exact ho q hq b hb
  · intro q hq
    rcases List.mem_append.mp hq with hq | hq
    · exact Nat.ne_of_gt (l1 q hq).1
    · exact hp.ne q hq
  · intro q hq
    rcases List.mem_append.mp hq with hq | hq
    · exact l4 q hq
    · exact l3 q hq
end
end Mine
namespace Mine
section
variable {M : Model} {A : Around} {E : Value → Shared → Prop} {s : Shared} {h₀ : Heap} {L a c : Addr} {m : Str → Option Value} {cn : Str} {cs : Scope} {ccd : Value} {cl : List (Str × Addr)} {news news' : List (Addr × Obj)} {o : Obj} {v₀ : Option Value} {v : Value} {x : Str}
theorem storeX_p {Q : Unit → Shared → Prop} (F : Fr h₀ L s.heap m) (N : News h₀ L s.heap news) (hc : cl.lookup x = some c) (U : Pull c o news news') (hd : o.data = .cell v₀)
    (h : ∀ h' o', Fr h₀ L h' m → News h₀ L h' ((c, o') :: news') → o'.data = .cell (some v) → Q () { s with heap := h' })
    (hk : cs.kind = .function := by rfl) (hx : (envX cn cs L a ccd cl).kindOf x = some .cell := by rfl) : wpAny M A (storeName (envX cn cs L a ccd cl) x v) Q E s :=
  storeX_C F (U.news N) hc (.head U.ne) hd h hk hx
end
section
variable {w : World} {p : Program} {loose : List Str} {mean : ExcName → Option Value} {mg mb : Str → Option Value} {dp un : Nat} {gd : Option (List Code)} {cn : Str} {cs : Scope} {a : Addr} {ccd : Value} {cl : List (Str × Addr)} {outer : List Env} {A₀ : Around} {base h₀ : Heap} {L : Addr} {m : Str → Option Value} {s : Shared} {Q E : Value → Shared → Prop} {news news' : List (Addr × Obj)}
theorem drawn_p {bx : Addr} {x y : Int} {t1 t2 t3 : Tok} {k : Nat} (B : Below A₀ base outer h₀) (F : Fr h₀ L s.heap m) (X : (hd.heap_39 w.params).In h₀) (N : News h₀ L s.heap news) (T : Top p loose mean mg mb h₀) (hk : cs.kind = .function)
    (U : Pull bx (box2 x t1 y t2 k) news news')
    (hd : dp + 6 < recursionLimit) (hu : un + 90 < cLine)
    (hret : ∀ f0 f1 x' y' tx ty D u1 u2 n h' tk', Drawn f0 f1 → Fr h₀ L h' m → News h₀ L h' ((D, tup2 f0 u1 f1 u2 n) :: (bx, box2 x' tx y' ty k) :: news') → (∀ q ∈ ((bx, box2 x' tx y' ty k) :: news'), q.1 < D) → Q (.ref D) { s with heap := h', toks := tk' }) :
    wpAny (model PySem.Challenge.rw_pq0158_01.row.prog w) (ktrTop dp un gd cn cs L a ccd cl outer) (call (.ref 107) [.ref bx, .int 6 t3]) Q E s :=
  drawn_c B F X (U.news N) T hk U.ne hd hu hret
end
def LawR (bx L : Addr) (d : Int) (m : Str → Option Value) (nx : List (Addr × Obj)) : Prop :=
  (@LT.lt Nat _ (L + 1 + 1 + 1) bx ∧ @LT.lt Nat _ 144 L ∧ 1 ≤ d ∧ d ≤ 6) ∧ m "box" = some (.ref bx) ∧ ∃ x y t1 t2 k oa ob od va vb td ps rest, nx = (bx, box2 x t1 y t2 k) :: (L + 1, oa) :: (L + 1 + 1, ob) :: (L + 1 + 1 + 1, od) :: (144, tabObj ps) :: rest ∧ oa.data = .cell va ∧ ob.data = .cell vb ∧ od.data = .cell (some (.int d td)) ∧
    TabOk "law.<locals>.<lambda>" ps rest ∧ Off [bx, L + 1, L + 1 + 1, L + 1 + 1 + 1, 144] rest
theorem law_start {h₀ h : Heap} {L bx : Addr} {d x y : Int} {m : Str → Option Value} {news : List (Addr × Obj)} {t1 t2 td : Tok} {k : Nat} {oa ob od : Obj} {va vb : Option Value} (_F : Fr h₀ L h m) (N : News h₀ L h news) (hb : (bx, box2 x t1 y t2 k) ∈ news) (h1 : (L + 1, oa) ∈ news) (h2 : (L + 1 + 1, ob) ∈ news) (h3 : (L + 1 + 1 + 1, od) ∈ news) (h4 : (144, tabObj #[]) ∈ news)
    (e1 : oa.data = .cell va) (e2 : ob.data = .cell vb) (e3 : od.data = .cell (some (.int d td))) (e4 : m "box" = some (.ref bx)) (e5 : @LT.lt Nat _ (L + 1 + 1 + 1) bx ∧ @LT.lt Nat _ 144 L ∧ 1 ≤ d ∧ d ≤ 6) : ∃ nx, News h₀ L h nx ∧ LawR bx L d m nx := by
  refine ⟨(bx, box2 x t1 y t2 k) :: (L + 1, oa) :: (L + 1 + 1, ob) :: (L + 1 + 1 + 1, od) :: (144, tabObj #[]) :: [], fun p hp => N p ?_, e5, e4, x, y, t1, t2, k, oa, ob, od, va, vb, td, #[], [], rfl, e1, e2, e3, TabOk.nil _ _, fun p hp => nomatch hp⟩
  rcases List.mem_cons.mp hp with rfl | hp
  · exact hb
  rcases List.mem_cons.mp hp with rfl | hp
  · exact h1
  rcases List.mem_cons.mp hp with rfl | hp
  · exact h2
  rcases List.mem_cons.mp hp with rfl | hp
  · exact h3
  rcases List.mem_cons.mp hp with rfl | hp
  · exact h4
  · nomatch hp
theorem turn_ne {bx c1 c2 c3 c4 I : Addr} {o0 o1 o2 o3 o4 : Obj} {rest : List (Addr × Obj)} (h : ∀ p ∈ (bx, o0) :: (c1, o1) :: (c2, o2) :: (c3, o3) :: (c4, o4) :: rest, p.1 ≠ I) : (bx ≠ I ∧ c1 ≠ I ∧ c2 ≠ I ∧ c3 ≠ I ∧ c4 ≠ I) ∧ ∀ p ∈ rest, p.1 ≠ I :=
  ⟨⟨h _ (.head _), h _ (.tail _ (.head _)), h _ (.tail _ (.tail _ (.head _))), h _ (.tail _ (.tail _ (.tail _ (.head _)))), h _ (.tail _ (.tail _ (.tail _ (.tail _ (.head _)))))⟩, fun p hp => h p (.tail _ (.tail _ (.tail _ (.tail _ (.tail _ hp)))))⟩
theorem News.turn {h₀ h : Heap} {L : Addr} {i b c1 c2 c3 c4 : Addr × Obj} {rest : List (Addr × Obj)} (N : News h₀ L h (i :: b :: c1 :: c2 :: c3 :: c4 :: rest)) : News h₀ L h (b :: c1 :: c2 :: c3 :: c4 :: i :: rest) := fun p hp => N p (by
  simp only [List.mem_cons] at hp ⊢
  rcases hp with h | h | h | h | h | h | h <;> simp [h])
theorem turn_gen {M : Model} {A : Around} {h₀ : Heap} {L : Addr} {R : (Str → Option Value) → List (Addr × Obj) → Prop} {I : Addr} {oI : Obj} {s₁ s : Shared} {Q : Flow → Shared → Prop} {E : Value → Shared → Prop} {c : Sem Flow} (k : ∀ Q₀ E₀, (∀ s', TurnC h₀ L R I oI s₁ Q .next s' → Q₀ .next s') → wpAny M A c Q₀ E₀ s) : wpAny M A c (TurnC h₀ L R I oI s₁ Q) E s := k _ E fun _ h => h
theorem post_gen {M : Model} {A : Around} {s : Shared} {Q : Flow → Shared → Prop} {E : Value → Shared → Prop} {c : Sem Flow} (k : ∀ Q₀, (∀ f s', Q f s' → Q₀ f s') → wpAny M A c Q₀ E s) : wpAny M A c Q E s := k _ fun _ _ h => h
theorem Drawn.bd {f0 f1 : Int} (h : Drawn f0 f1) : -1000000 < f0 ∧ f0 < 1000000 ∧ -6 ≤ f1 ∧ f1 ≤ 12 := by
  rcases h with ⟨rfl, rfl⟩ | ⟨_, h⟩
  · decide
  · exact h
theorem Drawn.ne {f0 f1 : Int} (h : Drawn f0 f1) (h2 : ¬ (f0 = 0 ∧ f1 = 0)) : f0 ≠ 0 := by
  rcases h with h | ⟨h, _⟩
  · exact absurd h h2
  · exact h
theorem turn_end {h₀ h : Heap} {L bx I : Addr} {oI : Obj} {d x y : Int} {m : Str → Option Value} {news cods : List (Addr × Obj)} {t1 t2 td : Tok} {k : Nat} {oa ob od : Obj} {va vb : Option Value} {ps : Array Value} {s₁ : Shared} {tk : Nat} {Q : Flow → Shared → Prop} (F : Fr h₀ L h m) (N : News h₀ L h news) (hb : (bx, box2 x t1 y t2 k) ∈ news) (h1 : (L + 1, oa) ∈ news) (h2 : (L + 1 + 1, ob) ∈ news) (h3 : (L + 1 + 1 + 1, od) ∈ news) (h4 : (144, tabObj ps) ∈ news) (h5 : (I, oI) ∈ news)
    (e1 : oa.data = .cell va) (e2 : ob.data = .cell vb) (e3 : od.data = .cell (some (.int d td))) (e4 : m "box" = some (.ref bx)) (e5 : @LT.lt Nat _ (L + 1 + 1 + 1) bx ∧ @LT.lt Nat _ 144 L ∧ 1 ≤ d ∧ d ≤ 6) (hT : TabOk "law.<locals>.<lambda>" ps cods) (hs : Sub cods news) (ho : Off [I, bx, L + 1, L + 1 + 1, L + 1 + 1 + 1, 144] cods)
    (hn : bx ≠ I ∧ L + 1 ≠ I ∧ L + 1 + 1 ≠ I ∧ L + 1 + 1 + 1 ≠ I ∧ 144 ≠ I) : TurnC h₀ L (LawR bx L d) I oI s₁ Q .next { s₁ with heap := h, toks := tk } := by
  obtain ⟨n1, n2, n3, n4, n5⟩ := hn
  refine ⟨h, tk, m, (bx, box2 x t1 y t2 k) :: (L + 1, oa) :: (L + 1 + 1, ob) :: (L + 1 + 1 + 1, od) :: (144, tabObj ps) :: cods, rfl, F, fun p hp => N p ?_, fun p hp => ?_, e5, e4, x, y, t1, t2, k, oa, ob, od, va, vb, td, ps, cods, rfl, e1, e2, e3, hT, fun p hp b hb => ho p hp b (.tail _ hb)⟩
  · rcases List.mem_cons.mp hp with rfl | hp
    · exact h5
    rcases List.mem_cons.mp hp with rfl | hp
    · exact hb
    rcases List.mem_cons.mp hp with rfl | hp
    · exact h1
    rcases List.mem_cons.mp hp with rfl | hp
    · exact h2
    rcases List.mem_cons.mp hp with rfl | hp
    · exact h3
    rcases List.mem_cons.mp hp with rfl | hp
    · exact h4
    · exact hs p hp
  · rcases List.mem_cons.mp hp with rfl | hp
    · exact n1
    rcases List.mem_cons.mp hp with rfl | hp
    · exact n2
    rcases List.mem_cons.mp hp with rfl | hp
    · exact n3
    rcases List.mem_cons.mp hp with rfl | hp
    · exact n4
    rcases List.mem_cons.mp hp with rfl | hp
    · exact n5
    · exact ho p hp I (.head _)
end Mine
namespace Mine.BE
theorem refused_dz' {w : World} {A A₀ : Around} {E : Value → Shared → Prop} {s : Shared} {p : Program} {loose : List Str} {mean : ExcName → Option Value} {mg mb : Str → Option Value} {env : Env} {h₀ : Heap} {L : Addr} {m : Str → Option Value} {news : List (Addr × Obj)} {Q : Value → Shared → Prop}
    {p1 p2 p3 p4 p5 : Pos} {qual : Str} {pm ctv : Value} {c' f' ca cb cd a b : Addr} {oa ob od oc' : Obj} {vs' : Array Value} {tc : Tok} {a0 a1 b0 b1 dg : Int} {t1 t2 t3 t4 t5 tk : Tok} {n1 n2 : Nat}
    (B : Below A₀ h₀ [] h₀) (F : Fr h₀ L s.heap m) (X : (hd.heap_39 w.params).In h₀) (N : News h₀ L s.heap news) (T : Top p loose mean mg mb h₀)
    (hA : A.frames = some [env]) (hh : A.handled = none) (hf : env.frame = some L) (hke : env.scope.kind = .function) (hroom : A.depth + 10 < recursionLimit)
    (hlam : (f', kla_obj "<lambda>" qual noArgs (divBody p1 p2 p3 p4 p5) divScope [("digits", cd), ("b", cb), ("a", ca)] pm c' ctv) ∈ news) (hcm : (c', oc') ∈ news) (hcd1 : oc'.data = .fields vs') (hcd2 : vs'[1]? = some (.str qual tc))
    (hca : (ca, oa) ∈ news) (hoa : oa.data = .cell (some (.ref a))) (hcb : (cb, ob) ∈ news) (hob : ob.data = .cell (some (.ref b))) (hcd : (cd, od) ∈ news) (hod : od.data = .cell (some (.int dg t5)))
    (ha : (a, tup2 a0 t1 a1 t2 n1) ∈ news) (hb : (b, tup2 b0 t3 b1 t4 n2) ∈ news) (hb0 : b0 = 0)
    (hq : ∀ h' tk', Fr h₀ L h' m → News h₀ L h' news → Q (.bool true) { s with heap := h', toks := tk' }) :
    wpAny (model PySem.Challenge.rw_pq0158_01.row.prog w) A (call (.ref 114) [.ref f', .str "DZ" tk]) Q E s := by
  subst hb0
  exact refused_dz B F X N T hA hh hf hke hroom hlam hcm hcd1 hcd2 hca hoa hcb hob hcd hod ha hb hq
end Mine.BE
namespace Mine
def LawJ (G : Heap) (L : Addr) (m : Str → Option Value) (bx I D1 : Addr) (oI oD od : Obj) (gg : Array GenState) (gd : PySem.Drawn) (go : OsState) (s' : Shared) : Prop :=
  ∃ h' tk' ps cods x y t1 t2 k oa ob vb, s' = ⟨h', gg, gd, tk', go⟩ ∧ Fr G L h' m ∧ News G L h' ((bx, box2 x t1 y t2 k) :: (L + 1, oa) :: (L + 1 + 1, ob) :: (L + 1 + 1 + 1, od) :: (144, tabObj ps) :: (I, oI) :: (D1, oD) :: cods) ∧ oa.data = .cell (some (.ref D1)) ∧ ob.data = .cell vb ∧
    TabOk "law.<locals>.<lambda>" ps cods ∧ Off [I, bx, L + 1, L + 1 + 1, L + 1 + 1 + 1, 144] cods
section
variable {M : Model} {A : Around} {E : Value → Shared → Prop} {c : Sem Flow} {Q : Flow → Shared → Prop} {h G : Heap} {L bx I D1 : Addr} {oI oD od oa ob : Obj} {m : Str → Option Value} {news cods : List (Addr × Obj)} {gg : Array GenState} {gd : PySem.Drawn} {go : OsState} {tk : Tok} {x y : Int} {t1 t2 : Tok} {k : Nat} {vb : Option Value} {ps : Array Value}
theorem join_gen (_F : Fr G L h m) (_N : News G L h news) (_h0 : (bx, box2 x t1 y t2 k) ∈ news) (_h1 : (L + 1, oa) ∈ news) (_e1 : oa.data = .cell (some (.ref D1))) (_h3 : (L + 1 + 1 + 1, od) ∈ news) (_h5 : (I, oI) ∈ news) (_h6 : (D1, oD) ∈ news)
    (hA : ∀ Qj, (∀ s', LawJ G L m bx I D1 oI oD od gg gd go s' → Qj .next s') → wpAny M A c Qj E ⟨h, gg, gd, tk, go⟩) (hB : ∀ s', LawJ G L m bx I D1 oI oD od gg gd go s' → Q .next s') : wpAny M A c Q E ⟨h, gg, gd, tk, go⟩ := hA Q hB
theorem join_end (F : Fr G L h m) (N : News G L h news) (h0 : (bx, box2 x t1 y t2 k) ∈ news) (h1 : (L + 1, oa) ∈ news) (h2 : (L + 1 + 1, ob) ∈ news) (h3 : (L + 1 + 1 + 1, od) ∈ news) (h4 : (144, tabObj ps) ∈ news) (h5 : (I, oI) ∈ news) (h6 : (D1, oD) ∈ news)
    (e1 : oa.data = .cell (some (.ref D1))) (e2 : ob.data = .cell vb) (hT : TabOk "law.<locals>.<lambda>" ps cods) (hs : Sub cods news) (ho : Off [I, bx, L + 1, L + 1 + 1, L + 1 + 1 + 1, 144] cods) : LawJ G L m bx I D1 oI oD od gg gd go ⟨h, gg, gd, tk, go⟩ := by
  refine ⟨h, tk, ps, cods, x, y, t1, t2, k, oa, ob, vb, rfl, F, fun p hp => N p ?_, e1, e2, hT, ho⟩
  rcases List.mem_cons.mp hp with rfl | hp
  · exact h0
  rcases List.mem_cons.mp hp with rfl | hp
  · exact h1
  rcases List.mem_cons.mp hp with rfl | hp
  · exact h2
  rcases List.mem_cons.mp hp with rfl | hp
  · exact h3
  rcases List.mem_cons.mp hp with rfl | hp
  · exact h4
  rcases List.mem_cons.mp hp with rfl | hp
  · exact h5
  rcases List.mem_cons.mp hp with rfl | hp
  · exact h6
  · exact hs p hp
end
end Mine
end
section
open PySem PySem.W PyProof.Rows PySem.Calls Mine
set_option maxRecDepth 100000
set_option maxHeartbeats 1500000 in
theorem Mine.x : PySem.Challenge.rw_pq0158_01.Holds := Mine.hd (by
  w_top off
  k_with_none
  (k_with "eval Lambda" => (k_here; k_dflt (refine' kla_p ?zyk1 ?zyk2 ?zyk3 ?zyk4 ?zyk5 ?zyU ?zyhT ?zyhS ?zyhO ?zyhA ?zye1 ?zye2 ?zye3 ?_; (case zyk1 => k_asm); (case zyk2 => k_asm); (case zyk3 => k_asm); (case zyk4 => kn_code); (case zyk5 => exact rfl); (case zyU => (with_reducible (first | exact Pull.head (by (repeat (first | with_reducible assumption | exact List.forall_mem_nil _ | (refine List.forall_mem_cons.mpr ⟨by (first | exact hn.1.symm | exact hn.2.1.symm | exact hn.2.2.1.symm | exact hn.2.2.2.2.symm | k_ne), ?_⟩)))) | ((first | (refine' Pull.tail ?zya ?zyb; (case zya => (first | exact hn.1.symm | exact hn.2.1.symm | exact hn.2.2.1.symm | exact hn.2.2.2.2.symm | k_ne))) | (refine' Pull.app ?zya ?zyb; (case zya => assumption))); (case zyb => (first | exact Pull.head (by (repeat (first | with_reducible assumption | exact List.forall_mem_nil _ | (refine List.forall_mem_cons.mpr ⟨by (first | exact hn.1.symm | exact hn.2.1.symm | exact hn.2.2.1.symm | exact hn.2.2.2.2.symm | k_ne), ?_⟩)))) | ((first | (refine' Pull.tail ?zya ?zyb; (case zya => (first | exact hn.1.symm | exact hn.2.1.symm | exact hn.2.2.1.symm | exact hn.2.2.2.2.symm | k_ne))) | (refine' Pull.app ?zya ?zyb; (case zya => assumption))); (case zyb => (first | exact Pull.head (by (repeat (first | with_reducible assumption | exact List.forall_mem_nil _ | (refine List.forall_mem_cons.mpr ⟨by (first | exact hn.1.symm | exact hn.2.1.symm | exact hn.2.2.1.symm | exact hn.2.2.2.2.symm | k_ne), ?_⟩)))) | ((first | (refine' Pull.tail ?zya ?zyb; (case zya => (first | exact hn.1.symm | exact hn.2.1.symm | exact hn.2.2.1.symm | exact hn.2.2.2.2.symm | k_ne))) | (refine' Pull.app ?zya ?zyb; (case zya => assumption))); (case zyb => (first | exact Pull.head (by (repeat (first | with_reducible assumption | exact List.forall_mem_nil _ | (refine List.forall_mem_cons.mpr ⟨by (first | exact hn.1.symm | exact hn.2.1.symm | exact hn.2.2.1.symm | exact hn.2.2.2.2.symm | k_ne), ?_⟩)))) | ((first | (refine' Pull.tail ?zya ?zyb; (case zya => (first | exact hn.1.symm | exact hn.2.1.symm | exact hn.2.2.1.symm | exact hn.2.2.2.2.symm | k_ne))) | (refine' Pull.app ?zya ?zyb; (case zya => assumption))); (case zyb => (first | exact Pull.head (by (repeat (first | with_reducible assumption | exact List.forall_mem_nil _ | (refine List.forall_mem_cons.mpr ⟨by (first | exact hn.1.symm | exact hn.2.1.symm | exact hn.2.2.1.symm | exact hn.2.2.2.2.symm | k_ne), ?_⟩)))) | ((first | (refine' Pull.tail ?zya ?zyb; (case zya => (first | exact hn.1.symm | exact hn.2.1.symm | exact hn.2.2.1.symm | exact hn.2.2.2.2.symm | k_ne))) | (refine' Pull.app ?zya ?zyb; (case zya => assumption))); (case zyb => (first | exact Pull.head (by (repeat (first | with_reducible assumption | exact List.forall_mem_nil _ | (refine List.forall_mem_cons.mpr ⟨by (first | exact hn.1.symm | exact hn.2.1.symm | exact hn.2.2.1.symm | exact hn.2.2.2.2.symm | k_ne), ?_⟩)))) | ((first | (refine' Pull.tail ?zya ?zyb; (case zya => (first | exact hn.1.symm | exact hn.2.1.symm | exact hn.2.2.1.symm | exact hn.2.2.2.2.symm | k_ne))) | (refine' Pull.app ?zya ?zyb; (case zya => assumption))); (case zyb => (first | exact Pull.head (by (repeat (first | with_reducible assumption | exact List.forall_mem_nil _ | (refine List.forall_mem_cons.mpr ⟨by (first | exact hn.1.symm | exact hn.2.1.symm | exact hn.2.2.1.symm | exact hn.2.2.2.2.symm | k_ne), ?_⟩)))) | ((first | (refine' Pull.tail ?zya ?zyb; (case zya => (first | exact hn.1.symm | exact hn.2.1.symm | exact hn.2.2.1.symm | exact hn.2.2.2.2.symm | k_ne))) | (refine' Pull.app ?zya ?zyb; (case zya => assumption))); (case zyb => (first | exact Pull.head (by (repeat (first | with_reducible assumption | exact List.forall_mem_nil _ | (refine List.forall_mem_cons.mpr ⟨by (first | exact hn.1.symm | exact hn.2.1.symm | exact hn.2.2.1.symm | exact hn.2.2.2.2.symm | k_ne), ?_⟩)))) | ((first | (refine' Pull.tail ?zya ?zyb; (case zya => (first | exact hn.1.symm | exact hn.2.1.symm | exact hn.2.2.1.symm | exact hn.2.2.2.2.symm | k_ne))) | (refine' Pull.app ?zya ?zyb; (case zya => assumption))); (case zyb => (first | exact Pull.head (by (repeat (first | with_reducible assumption | exact List.forall_mem_nil _ | (refine List.forall_mem_cons.mpr ⟨by (first | exact hn.1.symm | exact hn.2.1.symm | exact hn.2.2.1.symm | exact hn.2.2.2.2.symm | k_ne), ?_⟩)))) | ((first | (refine' Pull.tail ?zya ?zyb; (case zya => (first | exact hn.1.symm | exact hn.2.1.symm | exact hn.2.2.1.symm | exact hn.2.2.2.2.symm | k_ne))) | (refine' Pull.app ?zya ?zyb; (case zya => assumption))); (case zyb => (first | exact Pull.head (by (repeat (first | with_reducible assumption | exact List.forall_mem_nil _ | (refine List.forall_mem_cons.mpr ⟨by (first | exact hn.1.symm | exact hn.2.1.symm | exact hn.2.2.1.symm | exact hn.2.2.2.2.symm | k_ne), ?_⟩)))) | ((first | (refine' Pull.tail ?zya ?zyb; (case zya => (first | exact hn.1.symm | exact hn.2.1.symm | exact hn.2.2.1.symm | exact hn.2.2.2.2.symm | k_ne))) | (refine' Pull.app ?zya ?zyb; (case zya => assumption))); (case zyb => (first | exact Pull.head (by (repeat (first | with_reducible assumption | exact List.forall_mem_nil _ | (refine List.forall_mem_cons.mpr ⟨by (first | exact hn.1.symm | exact hn.2.1.symm | exact hn.2.2.1.symm | exact hn.2.2.2.2.symm | k_ne), ?_⟩)))) | ((first | (refine' Pull.tail ?zya ?zyb; (case zya => (first | exact hn.1.symm | exact hn.2.1.symm | exact hn.2.2.1.symm | exact hn.2.2.2.2.symm | k_ne))) | (refine' Pull.app ?zya ?zyb; (case zya => assumption))); (case zyb => (first | exact Pull.head (by (repeat (first | with_reducible assumption | exact List.forall_mem_nil _ | (refine List.forall_mem_cons.mpr ⟨by (first | exact hn.1.symm | exact hn.2.1.symm | exact hn.2.2.1.symm | exact hn.2.2.2.2.symm | k_ne), ?_⟩)))) | ((first | (refine' Pull.tail ?zya ?zyb; (case zya => (first | exact hn.1.symm | exact hn.2.1.symm | exact hn.2.2.1.symm | exact hn.2.2.2.2.symm | k_ne))) | (refine' Pull.app ?zya ?zyb; (case zya => assumption))); (case zyb => (exact Pull.head (by (repeat (first | with_reducible assumption | exact List.forall_mem_nil _ | (refine List.forall_mem_cons.mpr ⟨by (first | exact hn.1.symm | exact hn.2.1.symm | exact hn.2.2.1.symm | exact hn.2.2.2.2.symm | k_ne), ?_⟩))))))))))))))))))))))))))))))))))))))))))); (case zyhT => assumption); (case zyhS => (with_reducible (repeat (first | assumption | exact Sub.refl _ | apply Sub.tail | apply Sub.app)))); (case zyhO => assumption); (case zyhA => k_extra "adr"); (case zye1 => exact rfl); (case zye2 => exact rfl); (case zye3 => exact rfl)); intro f9 c9 o9 v9 t9 w9 h9 tk9 p9 n9 F9 N9 d9 e9 m9 T9 s9 O9 P9 l9 l8; (try k_lt l8); (try dsimp only); (try k_fold)))
  (k_with "storeName" => (k_here; (with_reducible show wpAny _ _ (storeName _ (Str.ofString "a") _) _ _ _); k_dflt (refine' storeX_p ?zyF ?zyN ?zyc ?zyU ?zyd ?_ ?zya ?zyb; (case zya => rfl); (case zyb => rfl); (case zyF => k_asm); (case zyN => k_asm); (case zyc => rfl); (case zyU => (with_reducible (first | exact Pull.head (by (repeat (first | with_reducible assumption | exact List.forall_mem_nil _ | (refine List.forall_mem_cons.mpr ⟨by (first | exact hn.1.symm | exact hn.2.1.symm | exact hn.2.2.1.symm | exact hn.2.2.2.2.symm | k_ne), ?_⟩)))) | ((first | (refine' Pull.tail ?zya ?zyb; (case zya => (first | exact hn.1.symm | exact hn.2.1.symm | exact hn.2.2.1.symm | exact hn.2.2.2.2.symm | k_ne))) | (refine' Pull.app ?zya ?zyb; (case zya => assumption))); (case zyb => (first | exact Pull.head (by (repeat (first | with_reducible assumption | exact List.forall_mem_nil _ | (refine List.forall_mem_cons.mpr ⟨by (first | exact hn.1.symm | exact hn.2.1.symm | exact hn.2.2.1.symm | exact hn.2.2.2.2.symm | k_ne), ?_⟩)))) | ((first | (refine' Pull.tail ?zya ?zyb; (case zya => (first | exact hn.1.symm | exact hn.2.1.symm | exact hn.2.2.1.symm | exact hn.2.2.2.2.symm | k_ne))) | (refine' Pull.app ?zya ?zyb; (case zya => assumption))); (case zyb => (first | exact Pull.head (by (repeat (first | with_reducible assumption | exact List.forall_mem_nil _ | (refine List.forall_mem_cons.mpr ⟨by (first | exact hn.1.symm | exact hn.2.1.symm | exact hn.2.2.1.symm | exact hn.2.2.2.2.symm | k_ne), ?_⟩)))) | ((first | (refine' Pull.tail ?zya ?zyb; (case zya => (first | exact hn.1.symm | exact hn.2.1.symm | exact hn.2.2.1.symm | exact hn.2.2.2.2.symm | k_ne))) | (refine' Pull.app ?zya ?zyb; (case zya => assumption))); (case zyb => (first | exact Pull.head (by (repeat (first | with_reducible assumption | exact List.forall_mem_nil _ | (refine List.forall_mem_cons.mpr ⟨by (first | exact hn.1.symm | exact hn.2.1.symm | exact hn.2.2.1.symm | exact hn.2.2.2.2.symm | k_ne), ?_⟩)))) | ((first | (refine' Pull.tail ?zya ?zyb; (case zya => (first | exact hn.1.symm | exact hn.2.1.symm | exact hn.2.2.1.symm | exact hn.2.2.2.2.symm | k_ne))) | (refine' Pull.app ?zya ?zyb; (case zya => assumption))); (case zyb => (first | exact Pull.head (by (repeat (first | with_reducible assumption | exact List.forall_mem_nil _ | (refine List.forall_mem_cons.mpr ⟨by (first | exact hn.1.symm | exact hn.2.1.symm | exact hn.2.2.1.symm | exact hn.2.2.2.2.symm | k_ne), ?_⟩)))) | ((first | (refine' Pull.tail ?zya ?zyb; (case zya => (first | exact hn.1.symm | exact hn.2.1.symm | exact hn.2.2.1.symm | exact hn.2.2.2.2.symm | k_ne))) | (refine' Pull.app ?zya ?zyb; (case zya => assumption))); (case zyb => (first | exact Pull.head (by (repeat (first | with_reducible assumption | exact List.forall_mem_nil _ | (refine List.forall_mem_cons.mpr ⟨by (first | exact hn.1.symm | exact hn.2.1.symm | exact hn.2.2.1.symm | exact hn.2.2.2.2.symm | k_ne), ?_⟩)))) | ((first | (refine' Pull.tail ?zya ?zyb; (case zya => (first | exact hn.1.symm | exact hn.2.1.symm | exact hn.2.2.1.symm | exact hn.2.2.2.2.symm | k_ne))) | (refine' Pull.app ?zya ?zyb; (case zya => assumption))); (case zyb => (first | exact Pull.head (by (repeat (first | with_reducible assumption | exact List.forall_mem_nil _ | (refine List.forall_mem_cons.mpr ⟨by (first | exact hn.1.symm | exact hn.2.1.symm | exact hn.2.2.1.symm | exact hn.2.2.2.2.symm | k_ne), ?_⟩)))) | ((first | (refine' Pull.tail ?zya ?zyb; (case zya => (first | exact hn.1.symm | exact hn.2.1.symm | exact hn.2.2.1.symm | exact hn.2.2.2.2.symm | k_ne))) | (refine' Pull.app ?zya ?zyb; (case zya => assumption))); (case zyb => (first | exact Pull.head (by (repeat (first | with_reducible assumption | exact List.forall_mem_nil _ | (refine List.forall_mem_cons.mpr ⟨by (first | exact hn.1.symm | exact hn.2.1.symm | exact hn.2.2.1.symm | exact hn.2.2.2.2.symm | k_ne), ?_⟩)))) | ((first | (refine' Pull.tail ?zya ?zyb; (case zya => (first | exact hn.1.symm | exact hn.2.1.symm | exact hn.2.2.1.symm | exact hn.2.2.2.2.symm | k_ne))) | (refine' Pull.app ?zya ?zyb; (case zya => assumption))); (case zyb => (first | exact Pull.head (by (repeat (first | with_reducible assumption | exact List.forall_mem_nil _ | (refine List.forall_mem_cons.mpr ⟨by (first | exact hn.1.symm | exact hn.2.1.symm | exact hn.2.2.1.symm | exact hn.2.2.2.2.symm | k_ne), ?_⟩)))) | ((first | (refine' Pull.tail ?zya ?zyb; (case zya => (first | exact hn.1.symm | exact hn.2.1.symm | exact hn.2.2.1.symm | exact hn.2.2.2.2.symm | k_ne))) | (refine' Pull.app ?zya ?zyb; (case zya => assumption))); (case zyb => (first | exact Pull.head (by (repeat (first | with_reducible assumption | exact List.forall_mem_nil _ | (refine List.forall_mem_cons.mpr ⟨by (first | exact hn.1.symm | exact hn.2.1.symm | exact hn.2.2.1.symm | exact hn.2.2.2.2.symm | k_ne), ?_⟩)))) | ((first | (refine' Pull.tail ?zya ?zyb; (case zya => (first | exact hn.1.symm | exact hn.2.1.symm | exact hn.2.2.1.symm | exact hn.2.2.2.2.symm | k_ne))) | (refine' Pull.app ?zya ?zyb; (case zya => assumption))); (case zyb => (first | exact Pull.head (by (repeat (first | with_reducible assumption | exact List.forall_mem_nil _ | (refine List.forall_mem_cons.mpr ⟨by (first | exact hn.1.symm | exact hn.2.1.symm | exact hn.2.2.1.symm | exact hn.2.2.2.2.symm | k_ne), ?_⟩)))) | ((first | (refine' Pull.tail ?zya ?zyb; (case zya => (first | exact hn.1.symm | exact hn.2.1.symm | exact hn.2.2.1.symm | exact hn.2.2.2.2.symm | k_ne))) | (refine' Pull.app ?zya ?zyb; (case zya => assumption))); (case zyb => (first | exact Pull.head (by (repeat (first | with_reducible assumption | exact List.forall_mem_nil _ | (refine List.forall_mem_cons.mpr ⟨by (first | exact hn.1.symm | exact hn.2.1.symm | exact hn.2.2.1.symm | exact hn.2.2.2.2.symm | k_ne), ?_⟩)))) | ((first | (refine' Pull.tail ?zya ?zyb; (case zya => (first | exact hn.1.symm | exact hn.2.1.symm | exact hn.2.2.1.symm | exact hn.2.2.2.2.symm | k_ne))) | (refine' Pull.app ?zya ?zyb; (case zya => assumption))); (case zyb => (exact Pull.head (by (repeat (first | with_reducible assumption | exact List.forall_mem_nil _ | (refine List.forall_mem_cons.mpr ⟨by (first | exact hn.1.symm | exact hn.2.1.symm | exact hn.2.2.1.symm | exact hn.2.2.2.2.symm | k_ne), ?_⟩))))))))))))))))))))))))))))))))))))))))))); (case zyd => assumption); k_whole); intro h9 o9 F9 N9 d9; (try dsimp only at N9)))
  (k_with "storeName" => (k_here; (with_reducible show wpAny _ _ (storeName _ (Str.ofString "b") _) _ _ _); k_dflt (refine' storeX_p ?zyF ?zyN ?zyc ?zyU ?zyd ?_ ?zya ?zyb; (case zya => rfl); (case zyb => rfl); (case zyF => k_asm); (case zyN => k_asm); (case zyc => rfl); (case zyU => (with_reducible (first | exact Pull.head (by (repeat (first | with_reducible assumption | exact List.forall_mem_nil _ | (refine List.forall_mem_cons.mpr ⟨by (first | exact hn.1.symm | exact hn.2.1.symm | exact hn.2.2.1.symm | exact hn.2.2.2.2.symm | k_ne), ?_⟩)))) | ((first | (refine' Pull.tail ?zya ?zyb; (case zya => (first | exact hn.1.symm | exact hn.2.1.symm | exact hn.2.2.1.symm | exact hn.2.2.2.2.symm | k_ne))) | (refine' Pull.app ?zya ?zyb; (case zya => assumption))); (case zyb => (first | exact Pull.head (by (repeat (first | with_reducible assumption | exact List.forall_mem_nil _ | (refine List.forall_mem_cons.mpr ⟨by (first | exact hn.1.symm | exact hn.2.1.symm | exact hn.2.2.1.symm | exact hn.2.2.2.2.symm | k_ne), ?_⟩)))) | ((first | (refine' Pull.tail ?zya ?zyb; (case zya => (first | exact hn.1.symm | exact hn.2.1.symm | exact hn.2.2.1.symm | exact hn.2.2.2.2.symm | k_ne))) | (refine' Pull.app ?zya ?zyb; (case zya => assumption))); (case zyb => (first | exact Pull.head (by (repeat (first | with_reducible assumption | exact List.forall_mem_nil _ | (refine List.forall_mem_cons.mpr ⟨by (first | exact hn.1.symm | exact hn.2.1.symm | exact hn.2.2.1.symm | exact hn.2.2.2.2.symm | k_ne), ?_⟩)))) | ((first | (refine' Pull.tail ?zya ?zyb; (case zya => (first | exact hn.1.symm | exact hn.2.1.symm | exact hn.2.2.1.symm | exact hn.2.2.2.2.symm | k_ne))) | (refine' Pull.app ?zya ?zyb; (case zya => assumption))); (case zyb => (first | exact Pull.head (by (repeat (first | with_reducible assumption | exact List.forall_mem_nil _ | (refine List.forall_mem_cons.mpr ⟨by (first | exact hn.1.symm | exact hn.2.1.symm | exact hn.2.2.1.symm | exact hn.2.2.2.2.symm | k_ne), ?_⟩)))) | ((first | (refine' Pull.tail ?zya ?zyb; (case zya => (first | exact hn.1.symm | exact hn.2.1.symm | exact hn.2.2.1.symm | exact hn.2.2.2.2.symm | k_ne))) | (refine' Pull.app ?zya ?zyb; (case zya => assumption))); (case zyb => (first | exact Pull.head (by (repeat (first | with_reducible assumption | exact List.forall_mem_nil _ | (refine List.forall_mem_cons.mpr ⟨by (first | exact hn.1.symm | exact hn.2.1.symm | exact hn.2.2.1.symm | exact hn.2.2.2.2.symm | k_ne), ?_⟩)))) | ((first | (refine' Pull.tail ?zya ?zyb; (case zya => (first | exact hn.1.symm | exact hn.2.1.symm | exact hn.2.2.1.symm | exact hn.2.2.2.2.symm | k_ne))) | (refine' Pull.app ?zya ?zyb; (case zya => assumption))); (case zyb => (first | exact Pull.head (by (repeat (first | with_reducible assumption | exact List.forall_mem_nil _ | (refine List.forall_mem_cons.mpr ⟨by (first | exact hn.1.symm | exact hn.2.1.symm | exact hn.2.2.1.symm | exact hn.2.2.2.2.symm | k_ne), ?_⟩)))) | ((first | (refine' Pull.tail ?zya ?zyb; (case zya => (first | exact hn.1.symm | exact hn.2.1.symm | exact hn.2.2.1.symm | exact hn.2.2.2.2.symm | k_ne))) | (refine' Pull.app ?zya ?zyb; (case zya => assumption))); (case zyb => (first | exact Pull.head (by (repeat (first | with_reducible assumption | exact List.forall_mem_nil _ | (refine List.forall_mem_cons.mpr ⟨by (first | exact hn.1.symm | exact hn.2.1.symm | exact hn.2.2.1.symm | exact hn.2.2.2.2.symm | k_ne), ?_⟩)))) | ((first | (refine' Pull.tail ?zya ?zyb; (case zya => (first | exact hn.1.symm | exact hn.2.1.symm | exact hn.2.2.1.symm | exact hn.2.2.2.2.symm | k_ne))) | (refine' Pull.app ?zya ?zyb; (case zya => assumption))); (case zyb => (first | exact Pull.head (by (repeat (first | with_reducible assumption | exact List.forall_mem_nil _ | (refine List.forall_mem_cons.mpr ⟨by (first | exact hn.1.symm | exact hn.2.1.symm | exact hn.2.2.1.symm | exact hn.2.2.2.2.symm | k_ne), ?_⟩)))) | ((first | (refine' Pull.tail ?zya ?zyb; (case zya => (first | exact hn.1.symm | exact hn.2.1.symm | exact hn.2.2.1.symm | exact hn.2.2.2.2.symm | k_ne))) | (refine' Pull.app ?zya ?zyb; (case zya => assumption))); (case zyb => (first | exact Pull.head (by (repeat (first | with_reducible assumption | exact List.forall_mem_nil _ | (refine List.forall_mem_cons.mpr ⟨by (first | exact hn.1.symm | exact hn.2.1.symm | exact hn.2.2.1.symm | exact hn.2.2.2.2.symm | k_ne), ?_⟩)))) | ((first | (refine' Pull.tail ?zya ?zyb; (case zya => (first | exact hn.1.symm | exact hn.2.1.symm | exact hn.2.2.1.symm | exact hn.2.2.2.2.symm | k_ne))) | (refine' Pull.app ?zya ?zyb; (case zya => assumption))); (case zyb => (first | exact Pull.head (by (repeat (first | with_reducible assumption | exact List.forall_mem_nil _ | (refine List.forall_mem_cons.mpr ⟨by (first | exact hn.1.symm | exact hn.2.1.symm | exact hn.2.2.1.symm | exact hn.2.2.2.2.symm | k_ne), ?_⟩)))) | ((first | (refine' Pull.tail ?zya ?zyb; (case zya => (first | exact hn.1.symm | exact hn.2.1.symm | exact hn.2.2.1.symm | exact hn.2.2.2.2.symm | k_ne))) | (refine' Pull.app ?zya ?zyb; (case zya => assumption))); (case zyb => (first | exact Pull.head (by (repeat (first | with_reducible assumption | exact List.forall_mem_nil _ | (refine List.forall_mem_cons.mpr ⟨by (first | exact hn.1.symm | exact hn.2.1.symm | exact hn.2.2.1.symm | exact hn.2.2.2.2.symm | k_ne), ?_⟩)))) | ((first | (refine' Pull.tail ?zya ?zyb; (case zya => (first | exact hn.1.symm | exact hn.2.1.symm | exact hn.2.2.1.symm | exact hn.2.2.2.2.symm | k_ne))) | (refine' Pull.app ?zya ?zyb; (case zya => assumption))); (case zyb => (first | exact Pull.head (by (repeat (first | with_reducible assumption | exact List.forall_mem_nil _ | (refine List.forall_mem_cons.mpr ⟨by (first | exact hn.1.symm | exact hn.2.1.symm | exact hn.2.2.1.symm | exact hn.2.2.2.2.symm | k_ne), ?_⟩)))) | ((first | (refine' Pull.tail ?zya ?zyb; (case zya => (first | exact hn.1.symm | exact hn.2.1.symm | exact hn.2.2.1.symm | exact hn.2.2.2.2.symm | k_ne))) | (refine' Pull.app ?zya ?zyb; (case zya => assumption))); (case zyb => (exact Pull.head (by (repeat (first | with_reducible assumption | exact List.forall_mem_nil _ | (refine List.forall_mem_cons.mpr ⟨by (first | exact hn.1.symm | exact hn.2.1.symm | exact hn.2.2.1.symm | exact hn.2.2.2.2.symm | k_ne), ?_⟩))))))))))))))))))))))))))))))))))))))))))); (case zyd => assumption); k_whole); intro h9 o9 F9 N9 d9; (try dsimp only at N9)))
  (k_with "eval Name" => (k_here; (with_reducible show wpAny _ _ (eval (Expr.Name (Str.ofString "a") _) _) _ _ _); k_dflt (refine' nameX_C ?zyN ?zyc ?zym ?zyd ?_ ?zya ?zyb; (case zya => rfl); (case zyb => rfl); (case zyN => k_asm); (case zyc => rfl); (case zym => with_reducible (repeat (first | assumption | exact List.mem_cons_self | (refine List.mem_cons_of_mem _ ?_) | (refine List.mem_append_right _ ?_)))); (case zyd => assumption); k_whole)))
  (k_with "eval Name" => (k_here; (with_reducible show wpAny _ _ (eval (Expr.Name (Str.ofString "b") _) _) _ _ _); k_dflt (refine' nameX_C ?zyN ?zyc ?zym ?zyd ?_ ?zya ?zyb; (case zya => rfl); (case zyb => rfl); (case zyN => k_asm); (case zyc => rfl); (case zym => with_reducible (repeat (first | assumption | exact List.mem_cons_self | (refine List.mem_cons_of_mem _ ?_) | (refine List.mem_append_right _ ?_)))); (case zyd => assumption); k_whole)))
  (k_with "eval Name" => (k_here; (with_reducible show wpAny _ _ (eval (Expr.Name (Str.ofString "digits") _) _) _ _ _); k_dflt (refine' nameX_C ?zyN ?zyc ?zym ?zyd ?_ ?zya ?zyb; (case zya => rfl); (case zyb => rfl); (case zyN => k_asm); (case zyc => rfl); (case zym => with_reducible (repeat (first | assumption | exact List.mem_cons_self | (refine List.mem_cons_of_mem _ ?_) | (refine List.mem_append_right _ ?_)))); (case zyd => assumption); k_whole)))
  (k_with "subscriptTail Name Constant ref int" => (k_here; (with_reducible show wpAny _ _ (subscriptTail _ _ (Value.ref _) (Value.int _ _)) _ _ _); (with_unfolding_all refine' t2_i ?zyN ?zyhm ?zyh0 ?zyh1 ?zyhv ?_ ?zyhs; (case zyN => k_asm); (case zyhm => with_reducible (repeat (first | assumption | exact List.mem_cons_self | (refine List.mem_cons_of_mem _ ?_) | (refine List.mem_append_right _ ?_)))); (case zyh0 => decide); (case zyh1 => decide); (case zyhv => exact rfl); (case zyhs => with_unfolding_all rfl); k_whole)))
  (k_with "compareOp Eq ref ref" => (k_here; (with_reducible show wpAny _ _ (compareOp _ (Value.ref _) (Value.ref _)) _ _ _); (with_unfolding_all refine' eq_t2 ?zyN ?zyhx ?zyhy ?zyhu ?_; (case zyN => k_asm); (case zyhx => with_reducible (repeat (first | assumption | exact List.mem_cons_self | (refine List.mem_cons_of_mem _ ?_) | (refine List.mem_append_right _ ?_)))); (case zyhy => with_reducible (repeat (first | assumption | exact List.mem_cons_self | (refine List.mem_cons_of_mem _ ?_) | (refine List.mem_append_right _ ?_)))); (case zyhu => first | decide | ktr_units); k_whole)))
  (k_with "compareOp NotEq ref ref" => (k_here; (with_reducible show wpAny _ _ (compareOp _ (Value.ref _) (Value.ref _)) _ _ _); (with_unfolding_all refine' ne_same ?zyN ?zyhx ?zyhy ?zyhu ?zye0 ?zye1 ?_; (case zyN => k_asm); (case zyhx => with_reducible (repeat (first | assumption | exact List.mem_cons_self | (refine List.mem_cons_of_mem _ ?_) | (refine List.mem_append_right _ ?_)))); (case zyhy => with_reducible (repeat (first | assumption | exact List.mem_cons_self | (refine List.mem_cons_of_mem _ ?_) | (refine List.mem_append_right _ ?_)))); (case zyhu => first | decide | ktr_units); (case zye0 => omega); (case zye1 => omega); k_whole)))
  (k_with "call ref" => (k_here; (with_reducible show wpAny _ _ (call (Value.ref 100) _) _ _ _); k_dflt (refine' all_c ?zyk1 ?zyk2 ?zyk3 ?zyk4 ?zyk5 ?zykK ?zyhl ?zyhi ?zyhlen ?zykd ?zyku ?_; (case zyk1 => k_asm); (case zyk2 => k_asm); (case zyk3 => k_asm); (case zyk4 => k_asm); (case zyk5 => k_asm); (case zykK => first | exact rfl | assumption); (case zyhl => assumption); (case zyhi => assumption); (case zyhlen => omega); (case zykd => first | decide | ktr_room); (case zyku => first | decide | ktr_units)); intro v9 t9 h9 tk9 F9 N9; (try dsimp only); (try k_fold)))
  (k_with "call ref" => (k_here; (with_reducible show wpAny _ _ (call (Value.ref 93) _) _ _ _); k_dflt (refine' take_c ?zyk1 ?zyk2 ?zyk3 ?zyk4 ?zyk5 ?zykK ?zyne ?zyt1 ?zyt2 ?zykd ?zyku ?_; (case zyk1 => k_asm); (case zyk2 => k_asm); (case zyk3 => k_asm); (case zyk4 => k_asm); (case zyk5 => k_asm); (case zykK => first | exact rfl | assumption); (case zyne => k_extra "ne"); (case zyt1 => omega); (case zyt2 => omega); (case zykd => first | decide | ktr_room); (case zyku => first | decide | ktr_units)); intro v9 x9 y9 tv9 tx9 ty9 h9 tk9 a9 b9 F9 N9; (try dsimp only); (try k_fold)))
  (k_with "call ref" => (k_here; (with_reducible show wpAny _ _ (call (Value.ref 135) _) _ _ _); k_dflt (refine' quot_c ?zyk1 ?zyk2 ?zyk3 ?zyk4 ?zyk5 ?zykK ?zyhx ?zyhy ?zyhz ?zyq0 ?zyq1 ?zyq2 ?zyq3 ?zyq4 ?zyq5 ?zyq6 ?zyq7 ?zyhD ?zykd ?zyku ?_; (case zyk1 => k_asm); (case zyk2 => k_asm); (case zyk3 => k_asm); (case zyk4 => k_asm); (case zyk5 => k_asm); (case zykK => first | exact rfl | assumption); (case zyhx => with_reducible (repeat (first | assumption | exact List.mem_cons_self | (refine List.mem_cons_of_mem _ ?_) | (refine List.mem_append_right _ ?_)))); (case zyhy => with_reducible (repeat (first | assumption | exact List.mem_cons_self | (refine List.mem_cons_of_mem _ ?_) | (refine List.mem_append_right _ ?_)))); (case zyhz => with_reducible (repeat (first | assumption | exact List.mem_cons_self | (refine List.mem_cons_of_mem _ ?_) | (refine List.mem_append_right _ ?_)))); (case zyq0 => first | assumption | decide | omega); (case zyq1 => first | assumption | decide | omega); (case zyq2 => first | assumption | decide | omega); (case zyq3 => first | assumption | decide | omega); (case zyq4 => first | assumption | decide | omega); (case zyq5 => first | assumption | decide | omega); (case zyq6 => first | exact Drawn.ne (by assumption) (by assumption) | decide | omega); (case zyq7 => first | exact Drawn.ne (by assumption) (by assumption) | decide | omega); (case zyhD => assumption); (case zykd => first | decide | ktr_room); (case zyku => first | decide | ktr_units)); intro h9 tk9 F9 N9; (try dsimp only); (try k_fold)))
  (k_with "call ref" => (k_here; (with_reducible show wpAny _ _ (call (Value.ref 142) _) _ _ _); k_dflt (refine' rootr_c (t3 := 0) (t4 := 0) (n2 := 0) ?zyk1 ?zyk2 ?zyk3 ?zyk4 ?zyk5 ?zykK ?zyhx ?zyhz ?zyq0 ?zyq1 ?zyq2 ?zyq3 ?zyhD ?zykd ?zyku ?_; (case zyk1 => k_asm); (case zyk2 => k_asm); (case zyk3 => k_asm); (case zyk4 => k_asm); (case zyk5 => k_asm); (case zykK => first | exact rfl | assumption); (case zyhx => with_reducible (repeat (first | assumption | exact List.mem_cons_self | (refine List.mem_cons_of_mem _ ?_) | (refine List.mem_append_right _ ?_)))); (case zyhz => with_reducible (repeat (first | assumption | exact List.mem_cons_self | (refine List.mem_cons_of_mem _ ?_) | (refine List.mem_append_right _ ?_)))); (case zyq0 => first | assumption | decide | omega); (case zyq1 => first | assumption | decide | omega); (case zyq2 => first | assumption | decide | omega); (case zyq3 => first | assumption | decide | omega); (case zyhD => assumption); (case zykd => first | decide | ktr_room); (case zyku => first | decide | ktr_units)); intro h9 tk9 F9 N9; (try dsimp only); (try k_fold)))
  (k_with "call ref" => (k_here; (with_reducible show wpAny _ _ (call (Value.ref 86) _) _ _ _); k_dflt (refine' d_root_any ?zyk1 ?zyk2 ?zyk3 ?zyk4 ?zyk5 ?zykK ?zyhx ?zyq0 ?zyq1 ?zyq2 ?zyq3 ?zyq4 ?zyq5 ?zykd ?zyku ?_; (case zyk1 => k_asm); (case zyk2 => k_asm); (case zyk3 => k_asm); (case zyk4 => k_asm); (case zyk5 => k_asm); (case zykK => first | exact rfl | assumption); (case zyhx => with_reducible (repeat (first | assumption | exact List.mem_cons_self | (refine List.mem_cons_of_mem _ ?_) | (refine List.mem_append_right _ ?_)))); (case zyq0 => first | assumption | decide | omega); (case zyq1 => first | assumption | decide | omega); (case zyq2 => first | assumption | decide | omega); (case zyq3 => first | assumption | decide | omega); (case zyq4 => first | assumption | decide | omega); (case zyq5 => first | assumption | decide | omega); (case zykd => first | decide | ktr_room); (case zyku => first | decide | ktr_units)); intro f9 e9 D9 u9 v9 n9 h9 tk9 V9 W9 F9 N9 l9; k_extra "root"; k_extra "lt"; (try dsimp only); (try k_fold)))
  (k_with "call ref" => (k_here; (with_reducible show wpAny _ _ (call (Value.ref 72) _) _ _ _); k_dflt (refine' d_div_any ?zyk1 ?zyk2 ?zyk3 ?zyk4 ?zyk5 ?zykK ?zyhx ?zyhy ?zyq0 ?zyq1 ?zyq2 ?zyq3 ?zyq4 ?zyq5 ?zyq6 ?zyq7 ?zyq8 ?zyq9 ?zyq10 ?zykd ?zyku ?_; (case zyk1 => k_asm); (case zyk2 => k_asm); (case zyk3 => k_asm); (case zyk4 => k_asm); (case zyk5 => k_asm); (case zykK => first | exact rfl | assumption); (case zyhx => with_reducible (repeat (first | assumption | exact List.mem_cons_self | (refine List.mem_cons_of_mem _ ?_) | (refine List.mem_append_right _ ?_)))); (case zyhy => with_reducible (repeat (first | assumption | exact List.mem_cons_self | (refine List.mem_cons_of_mem _ ?_) | (refine List.mem_append_right _ ?_)))); (case zyq0 => first | assumption | decide | omega); (case zyq1 => first | assumption | decide | omega); (case zyq2 => first | assumption | decide | omega); (case zyq3 => first | assumption | decide | omega); (case zyq4 => first | assumption | decide | omega); (case zyq5 => first | assumption | decide | omega); (case zyq6 => first | exact Drawn.ne (by assumption) (by assumption) | decide | omega); (case zyq7 => first | assumption | decide | omega); (case zyq8 => first | assumption | decide | omega); (case zyq9 => first | assumption | decide | omega); (case zyq10 => first | assumption | decide | omega); (case zykd => first | decide | ktr_room); (case zyku => first | decide | ktr_units)); intro f9 e9 D9 u9 v9 n9 h9 tk9 V9 W9 F9 N9 l9; k_extra "div"; k_extra "lt"; (try dsimp only); (try k_fold)))
  (k_with "call ref" => (k_here; (with_reducible show wpAny _ _ (call (Value.ref 114) _) _ _ _); k_dflt (refine' BE.refused_dz' ?zyk1 ?zyk2 ?zyk3 ?zyk4 ?zyk5 ?zya1 ?zya2 ?zya3 ?zya4 ?zya5 ?zyhl ?zyhc ?zyd1 ?zyd2 ?zyca ?zyoa ?zycb ?zyob ?zycd ?zyod ?zyta ?zytb ?zyb0 ?_; (case zyk1 => k_asm); (case zyk2 => k_asm); (case zyk3 => k_asm); (case zyk4 => k_asm); (case zyk5 => k_asm); (case zya1 => exact rfl); (case zya2 => exact rfl); (case zya3 => exact rfl); (case zya4 => exact rfl); (case zya5 => first | ktr_room | (simp only [depth_deeper, depth_caller, recursionLimit]; (first | done | omega)) | (show (1:Nat) + 10 < recursionLimit; decide) | (show (2:Nat) + 10 < recursionLimit; decide)); (case zyhl => with_reducible (repeat (first | assumption | exact List.mem_cons_self | (refine List.mem_cons_of_mem _ ?_) | (refine List.mem_append_right _ ?_)))); (case zyhc => with_reducible (repeat (first | assumption | exact List.mem_cons_self | (refine List.mem_cons_of_mem _ ?_) | (refine List.mem_append_right _ ?_)))); (case zyd1 => assumption); (case zyd2 => assumption); (case zyca => with_reducible (repeat (first | assumption | exact List.mem_cons_self | (refine List.mem_cons_of_mem _ ?_) | (refine List.mem_append_right _ ?_)))); (case zyoa => assumption); (case zycb => with_reducible (repeat (first | assumption | exact List.mem_cons_self | (refine List.mem_cons_of_mem _ ?_) | (refine List.mem_append_right _ ?_)))); (case zyob => assumption); (case zycd => with_reducible (repeat (first | assumption | exact List.mem_cons_self | (refine List.mem_cons_of_mem _ ?_) | (refine List.mem_append_right _ ?_)))); (case zyod => assumption); (case zyta => with_reducible (repeat (first | assumption | exact List.mem_cons_self | (refine List.mem_cons_of_mem _ ?_) | (refine List.mem_append_right _ ?_)))); (case zytb => with_reducible (repeat (first | assumption | exact List.mem_cons_self | (refine List.mem_cons_of_mem _ ?_) | (refine List.mem_append_right _ ?_)))); (case zyb0 => omega); ); intro h9 tk9 F9 N9; (try dsimp only); (try k_fold)))
  (k_with "call ref" => (k_here; (with_reducible show wpAny _ _ (call (Value.ref 114) _) _ _ _); k_dflt (refine' BE.refused_fc ?zyk1 ?zyk2 ?zyk3 ?zyk4 ?zyk5 ?zya1 ?zya2 ?zya3 ?zya4 ?zya5 ?zyhl ?zyhc ?zyd1 ?zyd2 ?zyca ?zyoa ?zycd ?zyod ?zyta ?zyb0 ?_; (case zyk1 => k_asm); (case zyk2 => k_asm); (case zyk3 => k_asm); (case zyk4 => k_asm); (case zyk5 => k_asm); (case zya1 => exact rfl); (case zya2 => exact rfl); (case zya3 => exact rfl); (case zya4 => exact rfl); (case zya5 => first | ktr_room | (simp only [depth_deeper, depth_caller, recursionLimit]; (first | done | omega)) | (show (1:Nat) + 10 < recursionLimit; decide) | (show (2:Nat) + 10 < recursionLimit; decide)); (case zyhl => with_reducible (repeat (first | assumption | exact List.mem_cons_self | (refine List.mem_cons_of_mem _ ?_) | (refine List.mem_append_right _ ?_)))); (case zyhc => with_reducible (repeat (first | assumption | exact List.mem_cons_self | (refine List.mem_cons_of_mem _ ?_) | (refine List.mem_append_right _ ?_)))); (case zyd1 => assumption); (case zyd2 => assumption); (case zyca => with_reducible (repeat (first | assumption | exact List.mem_cons_self | (refine List.mem_cons_of_mem _ ?_) | (refine List.mem_append_right _ ?_)))); (case zyoa => assumption); (case zycd => with_reducible (repeat (first | assumption | exact List.mem_cons_self | (refine List.mem_cons_of_mem _ ?_) | (refine List.mem_append_right _ ?_)))); (case zyod => assumption); (case zyta => with_reducible (repeat (first | assumption | exact List.mem_cons_self | (refine List.mem_cons_of_mem _ ?_) | (refine List.mem_append_right _ ?_)))); (case zyb0 => omega); ); intro h9 tk9 F9 N9; (try dsimp only); (try k_fold)))
  (k_with "call ref" => (k_here; (with_reducible show wpAny _ _ (call (Value.ref 107) _) _ _ _); k_dflt (refine' drawn_p ?zyk1 ?zyk2 ?zyk3 ?zyk4 ?zyk5 ?zykK ?zyU ?zykd ?zyku ?_; (case zyk1 => k_asm); (case zyk2 => k_asm); (case zyk3 => k_asm); (case zyk4 => k_asm); (case zyk5 => k_asm); (case zykK => first | exact rfl | assumption); (case zyU => (with_reducible (first | exact Pull.head (by (repeat (first | with_reducible assumption | exact List.forall_mem_nil _ | (refine List.forall_mem_cons.mpr ⟨by (first | exact hn.1.symm | exact hn.2.1.symm | exact hn.2.2.1.symm | exact hn.2.2.2.2.symm | k_ne), ?_⟩)))) | ((first | (refine' Pull.tail ?zya ?zyb; (case zya => (first | exact hn.1.symm | exact hn.2.1.symm | exact hn.2.2.1.symm | exact hn.2.2.2.2.symm | k_ne))) | (refine' Pull.app ?zya ?zyb; (case zya => assumption))); (case zyb => (first | exact Pull.head (by (repeat (first | with_reducible assumption | exact List.forall_mem_nil _ | (refine List.forall_mem_cons.mpr ⟨by (first | exact hn.1.symm | exact hn.2.1.symm | exact hn.2.2.1.symm | exact hn.2.2.2.2.symm | k_ne), ?_⟩)))) | ((first | (refine' Pull.tail ?zya ?zyb; (case zya => (first | exact hn.1.symm | exact hn.2.1.symm | exact hn.2.2.1.symm | exact hn.2.2.2.2.symm | k_ne))) | (refine' Pull.app ?zya ?zyb; (case zya => assumption))); (case zyb => (first | exact Pull.head (by (repeat (first | with_reducible assumption | exact List.forall_mem_nil _ | (refine List.forall_mem_cons.mpr ⟨by (first | exact hn.1.symm | exact hn.2.1.symm | exact hn.2.2.1.symm | exact hn.2.2.2.2.symm | k_ne), ?_⟩)))) | ((first | (refine' Pull.tail ?zya ?zyb; (case zya => (first | exact hn.1.symm | exact hn.2.1.symm | exact hn.2.2.1.symm | exact hn.2.2.2.2.symm | k_ne))) | (refine' Pull.app ?zya ?zyb; (case zya => assumption))); (case zyb => (first | exact Pull.head (by (repeat (first | with_reducible assumption | exact List.forall_mem_nil _ | (refine List.forall_mem_cons.mpr ⟨by (first | exact hn.1.symm | exact hn.2.1.symm | exact hn.2.2.1.symm | exact hn.2.2.2.2.symm | k_ne), ?_⟩)))) | ((first | (refine' Pull.tail ?zya ?zyb; (case zya => (first | exact hn.1.symm | exact hn.2.1.symm | exact hn.2.2.1.symm | exact hn.2.2.2.2.symm | k_ne))) | (refine' Pull.app ?zya ?zyb; (case zya => assumption))); (case zyb => (first | exact Pull.head (by (repeat (first | with_reducible assumption | exact List.forall_mem_nil _ | (refine List.forall_mem_cons.mpr ⟨by (first | exact hn.1.symm | exact hn.2.1.symm | exact hn.2.2.1.symm | exact hn.2.2.2.2.symm | k_ne), ?_⟩)))) | ((first | (refine' Pull.tail ?zya ?zyb; (case zya => (first | exact hn.1.symm | exact hn.2.1.symm | exact hn.2.2.1.symm | exact hn.2.2.2.2.symm | k_ne))) | (refine' Pull.app ?zya ?zyb; (case zya => assumption))); (case zyb => (first | exact Pull.head (by (repeat (first | with_reducible assumption | exact List.forall_mem_nil _ | (refine List.forall_mem_cons.mpr ⟨by (first | exact hn.1.symm | exact hn.2.1.symm | exact hn.2.2.1.symm | exact hn.2.2.2.2.symm | k_ne), ?_⟩)))) | ((first | (refine' Pull.tail ?zya ?zyb; (case zya => (first | exact hn.1.symm | exact hn.2.1.symm | exact hn.2.2.1.symm | exact hn.2.2.2.2.symm | k_ne))) | (refine' Pull.app ?zya ?zyb; (case zya => assumption))); (case zyb => (first | exact Pull.head (by (repeat (first | with_reducible assumption | exact List.forall_mem_nil _ | (refine List.forall_mem_cons.mpr ⟨by (first | exact hn.1.symm | exact hn.2.1.symm | exact hn.2.2.1.symm | exact hn.2.2.2.2.symm | k_ne), ?_⟩)))) | ((first | (refine' Pull.tail ?zya ?zyb; (case zya => (first | exact hn.1.symm | exact hn.2.1.symm | exact hn.2.2.1.symm | exact hn.2.2.2.2.symm | k_ne))) | (refine' Pull.app ?zya ?zyb; (case zya => assumption))); (case zyb => (first | exact Pull.head (by (repeat (first | with_reducible assumption | exact List.forall_mem_nil _ | (refine List.forall_mem_cons.mpr ⟨by (first | exact hn.1.symm | exact hn.2.1.symm | exact hn.2.2.1.symm | exact hn.2.2.2.2.symm | k_ne), ?_⟩)))) | ((first | (refine' Pull.tail ?zya ?zyb; (case zya => (first | exact hn.1.symm | exact hn.2.1.symm | exact hn.2.2.1.symm | exact hn.2.2.2.2.symm | k_ne))) | (refine' Pull.app ?zya ?zyb; (case zya => assumption))); (case zyb => (first | exact Pull.head (by (repeat (first | with_reducible assumption | exact List.forall_mem_nil _ | (refine List.forall_mem_cons.mpr ⟨by (first | exact hn.1.symm | exact hn.2.1.symm | exact hn.2.2.1.symm | exact hn.2.2.2.2.symm | k_ne), ?_⟩)))) | ((first | (refine' Pull.tail ?zya ?zyb; (case zya => (first | exact hn.1.symm | exact hn.2.1.symm | exact hn.2.2.1.symm | exact hn.2.2.2.2.symm | k_ne))) | (refine' Pull.app ?zya ?zyb; (case zya => assumption))); (case zyb => (first | exact Pull.head (by (repeat (first | with_reducible assumption | exact List.forall_mem_nil _ | (refine List.forall_mem_cons.mpr ⟨by (first | exact hn.1.symm | exact hn.2.1.symm | exact hn.2.2.1.symm | exact hn.2.2.2.2.symm | k_ne), ?_⟩)))) | ((first | (refine' Pull.tail ?zya ?zyb; (case zya => (first | exact hn.1.symm | exact hn.2.1.symm | exact hn.2.2.1.symm | exact hn.2.2.2.2.symm | k_ne))) | (refine' Pull.app ?zya ?zyb; (case zya => assumption))); (case zyb => (first | exact Pull.head (by (repeat (first | with_reducible assumption | exact List.forall_mem_nil _ | (refine List.forall_mem_cons.mpr ⟨by (first | exact hn.1.symm | exact hn.2.1.symm | exact hn.2.2.1.symm | exact hn.2.2.2.2.symm | k_ne), ?_⟩)))) | ((first | (refine' Pull.tail ?zya ?zyb; (case zya => (first | exact hn.1.symm | exact hn.2.1.symm | exact hn.2.2.1.symm | exact hn.2.2.2.2.symm | k_ne))) | (refine' Pull.app ?zya ?zyb; (case zya => assumption))); (case zyb => (first | exact Pull.head (by (repeat (first | with_reducible assumption | exact List.forall_mem_nil _ | (refine List.forall_mem_cons.mpr ⟨by (first | exact hn.1.symm | exact hn.2.1.symm | exact hn.2.2.1.symm | exact hn.2.2.2.2.symm | k_ne), ?_⟩)))) | ((first | (refine' Pull.tail ?zya ?zyb; (case zya => (first | exact hn.1.symm | exact hn.2.1.symm | exact hn.2.2.1.symm | exact hn.2.2.2.2.symm | k_ne))) | (refine' Pull.app ?zya ?zyb; (case zya => assumption))); (case zyb => (exact Pull.head (by (repeat (first | with_reducible assumption | exact List.forall_mem_nil _ | (refine List.forall_mem_cons.mpr ⟨by (first | exact hn.1.symm | exact hn.2.1.symm | exact hn.2.2.1.symm | exact hn.2.2.2.2.symm | k_ne), ?_⟩))))))))))))))))))))))))))))))))))))))))))); (case zykd => first | decide | ktr_room); (case zyku => first | decide | ktr_units)); intro f9 e9 x9 y9 tx9 ty9 D9 u9 v9 n9 h9 tk9 W9 F9 N9 l9; k_extra "drawn"; (try k_lt l9); (try dsimp only); (try k_fold)))
  (k_with "callWith ref" => (k_here; k_dflt (refine' callWith_K ?zyk1 ?zyk2 ?_; (case zyk1 => k_asm); (case zyk2 => k_is); k_whole)))
  k_go0; (all_goals try k_fold)
  refine post_gen (fun Qz hQz => ?_)
  (k_with "ne" => ((repeat (first | with_reducible assumption | exact List.forall_mem_nil _ | (refine List.forall_mem_cons.mpr ⟨by (first | exact hn.1.symm | exact hn.2.1.symm | exact hn.2.2.1.symm | exact hn.2.2.2.2.symm | k_ne), ?_⟩)))))
  (k_with "div" => (first | ((have w9 := W9 (by decide)); (first | have z9 := div67 w9 | have z9 := div12 w9)) | (have z9 := V9 (by omega)) | (have w9 := W9 (Drawn.ne (by assumption) (by assumption))); (try clear V9 W9)))
  (k_with "root" => (first | ((have w9 := W9 (by decide)); (have z9 := root141 w9)) | (have z9 := V9 (by omega)) | (have w9 := W9 (by omega)); (try clear V9 W9)))
  (k_with "lt" => (first | ((have hzz := hn); clear hzz; k_lt l9) | clear l9))
  (k_with "drawn" => ((rename Drawn _ _ => w9); (obtain ⟨y1, y2, y3, y4⟩ := Drawn.bd w9)))
  (k_with "exec If" => (clear mk0; (rename Fr _ _ _ _ => jF); (rename News _ _ _ _ => jN); (refine' join_gen (I := I) (oI := oI) jF jN ?zj0 ?zj1 ?zj2 ?zj3 ?zj5 ?zj6 ?zjA ?zjB); (case zj0 => with_reducible (repeat (first | assumption | exact List.mem_cons_self | (refine List.mem_cons_of_mem _ ?_) | (refine List.mem_append_right _ ?_)))); (case zj1 => with_reducible (repeat (first | assumption | exact List.mem_cons_self | (refine List.mem_cons_of_mem _ ?_) | (refine List.mem_append_right _ ?_)))); (case zj2 => assumption); (case zj3 => with_reducible (repeat (first | assumption | exact List.mem_cons_self | (refine List.mem_cons_of_mem _ ?_) | (refine List.mem_append_right _ ?_)))); (case zj5 => with_reducible (repeat (first | assumption | exact List.mem_cons_self | (refine List.mem_cons_of_mem _ ?_) | (refine List.mem_append_right _ ?_)))); (case zj6 => with_reducible (repeat (first | assumption | exact List.mem_cons_self | (refine List.mem_cons_of_mem _ ?_) | (refine List.mem_append_right _ ?_)))); (case' zjA => intro Qj hJ); (case' zjB => intro s2 hJ; (unfold LawJ at hJ); (obtain ⟨h2, tk2, ps2, cods2, x2, y2, t12, t22, k22, oa2, ob2, vb2, R6, F2, N2, e12, e22, hT2, hO2⟩ := hJ); subst R6; clear jF jN; (have r52 := Off.ne hO2 (List.Mem.tail _ (List.Mem.tail _ (List.Mem.tail _ (List.Mem.tail _ (List.Mem.tail _ (List.Mem.head _))))))); (try dsimp only); (try k_fold))))
  (k_with "newTuple" => (k_here; kup_bare; k_dflt (refine' kup_newTuple ?zuF ?zuN ?_ ?zuz; (case zuF => k_asm); (case zuN => k_asm); (case zuz => kmk_size)); intro D9 h9 F9 N9 l9; k_extra "lt"; (try k_sweep)))
  (k_with "adr" => (refine' Has.cons ?za6 ?zb6; (case za6 => with_reducible (repeat (first | assumption | exact List.mem_cons_self | (refine List.mem_cons_of_mem _ ?_) | (refine List.mem_append_right _ ?_)))); (case zb6 => (refine' Has.cons ?za5 ?zb5; (case za5 => with_reducible (repeat (first | assumption | exact List.mem_cons_self | (refine List.mem_cons_of_mem _ ?_) | (refine List.mem_append_right _ ?_)))); (case zb5 => (refine' Has.cons ?za4 ?zb4; (case za4 => with_reducible (repeat (first | assumption | exact List.mem_cons_self | (refine List.mem_cons_of_mem _ ?_) | (refine List.mem_append_right _ ?_)))); (case zb4 => (refine' Has.cons ?za3 ?zb3; (case za3 => with_reducible (repeat (first | assumption | exact List.mem_cons_self | (refine List.mem_cons_of_mem _ ?_) | (refine List.mem_append_right _ ?_)))); (case zb3 => (refine' Has.cons ?za2 ?zb2; (case za2 => with_reducible (repeat (first | assumption | exact List.mem_cons_self | (refine List.mem_cons_of_mem _ ?_) | (refine List.mem_append_right _ ?_)))); (case zb2 => (refine' Has.cons ?za1 ?zb1; (case za1 => with_reducible (repeat (first | assumption | exact List.mem_cons_self | (refine List.mem_cons_of_mem _ ?_) | (refine List.mem_append_right _ ?_)))); (case zb1 => (exact Has.nil))))))))))))))
  (k_with "pyIter ref" => ((rename IsRange _ _ _ _ _ _ _ _ => rgX); (rename Fr _ _ _ _ => lF'); (rename News _ _ _ _ => lN'); (refine' Exists.elim (law_start lF' lN' ?g1 ?g2 ?g3 ?g4 ?g5 ?g6 ?g7 ?g8 ?g9 ?ga) ?_); (case g1 => with_reducible (repeat (first | assumption | exact List.mem_cons_self | (refine List.mem_cons_of_mem _ ?_) | (refine List.mem_append_right _ ?_)))); (case g2 => with_reducible (repeat (first | assumption | exact List.mem_cons_self | (refine List.mem_cons_of_mem _ ?_) | (refine List.mem_append_right _ ?_)))); (case g3 => with_reducible (repeat (first | assumption | exact List.mem_cons_self | (refine List.mem_cons_of_mem _ ?_) | (refine List.mem_append_right _ ?_)))); (case g4 => with_reducible (repeat (first | assumption | exact List.mem_cons_self | (refine List.mem_cons_of_mem _ ?_) | (refine List.mem_append_right _ ?_)))); (case g5 => with_reducible (repeat (first | assumption | exact List.mem_cons_self | (refine List.mem_cons_of_mem _ ?_) | (refine List.mem_append_right _ ?_)))); (case g6 => assumption); (case g7 => assumption); (case g8 => assumption); (case g9 => exact if_pos rfl); (case ga => (refine ⟨?_, ?_, ?_, ?_⟩ <;> omega)); (rintro nx ⟨N1, R1⟩); (rename Below _ _ _ _ => kK); (rename Top _ _ _ _ _ _ => kT); (rename Frag.In _ _ => kX); (with_unfolding_all refine' iter_rangeC (n := 5) (LawR _ _ _) ?zhl ?hh rgX ?hs ?hn lF' N1 R1 ?turn ?done); (case zhl => with_unfolding_all rfl); (case hh => first | exact rfl | with_unfolding_all rfl ); (case hs => first | decide ); (case hn => first | decide | exact rangeSize_nat _ _ | with_unfolding_all rfl ); (case' turn => intro I oI k t m₁ nx h tk hI R2 F N; refine turn_gen (fun Q0 E0 hQt => ?_); revert kX kT kK codeHd hI R2 F N hQt; kjx_bare; (rename Shared => s1); (generalize ghostOf s1.heap [(148, 144)] = G); (generalize s1.heap.objs.size = L0); (generalize s1.gens = gg); (generalize s1.drawn = gd); (generalize s1.os = go); intro kX kT kK codeHd hI R2 F N hQt; (unfold LawR at R2); (obtain ⟨hL, hbox, R3⟩ := R2); (obtain ⟨x, y, t1, t2, k2, oa, ob, od, va, vb, td, ps, rest, R4⟩ := R3); (obtain ⟨R5, ha, hb, hd, hT, hO⟩ := R4); subst R5; (try dsimp only at F); rw [map_one hbox (fun z _ _ => rfl)] at F; (obtain ⟨hn, r6⟩ := turn_ne hI); (have hd1 := hL.2.2.1); (have hd2 := hL.2.2.2); (have hO' := Off.cons r6 hO); (have r1 := Off.ne hO (List.Mem.head _)); (have r2 := Off.ne hO (List.Mem.tail _ (List.Mem.head _))); (have r3 := Off.ne hO (List.Mem.tail _ (List.Mem.tail _ (List.Mem.head _)))); (have r4 := Off.ne hO (List.Mem.tail _ (List.Mem.tail _ (List.Mem.tail _ (List.Mem.head _))))); (have r5 := Off.ne hO (List.Mem.tail _ (List.Mem.tail _ (List.Mem.tail _ (List.Mem.tail _ (List.Mem.head _)))))); (replace N := News.turn N); clear hI hbox; (have mk0 := True.intro); (dsimp only at codeHd); (try dsimp only); (try k_fold)); (case' done => intro m₁ nx h tk R2 F N; (unfold LawR at R2); (obtain ⟨hL, hbox, R3⟩ := R2); (obtain ⟨x, y, t1, t2, k2, oa, ob, od, va, vb, td, ps, rest, R4⟩ := R3); (obtain ⟨R5, ha, hb, hd, hT, hO⟩ := R4); subst R5; clear hbox ha hb hd hT hO; (try dsimp only); (try k_fold))))

  k_steps
  all_goals first | ((with_reducible refine hQt _ ?_); (rename Fr _ _ _ _ => kF); (rename News _ _ _ _ => kN); (rename TabOk _ _ _ => kB); (rename Off _ _ => kO); (with_unfolding_all refine' turn_end kF kN ?zhb ?zh1 ?zh2 ?zh3 ?zh4 ?zh5 ?ze1 ?ze2 ?ze3 ?ze4 hL kB ?zhs kO hn); (case zhb => with_reducible (repeat (first | assumption | exact List.mem_cons_self | (refine List.mem_cons_of_mem _ ?_) | (refine List.mem_append_right _ ?_)))); (case zh1 => with_reducible (repeat (first | assumption | exact List.mem_cons_self | (refine List.mem_cons_of_mem _ ?_) | (refine List.mem_append_right _ ?_)))); (case zh2 => with_reducible (repeat (first | assumption | exact List.mem_cons_self | (refine List.mem_cons_of_mem _ ?_) | (refine List.mem_append_right _ ?_)))); (case zh3 => with_reducible (repeat (first | assumption | exact List.mem_cons_self | (refine List.mem_cons_of_mem _ ?_) | (refine List.mem_append_right _ ?_)))); (case zh4 => with_reducible (repeat (first | assumption | exact List.mem_cons_self | (refine List.mem_cons_of_mem _ ?_) | (refine List.mem_append_right _ ?_)))); (case zh5 => with_reducible (repeat (first | assumption | exact List.mem_cons_self | (refine List.mem_cons_of_mem _ ?_) | (refine List.mem_append_right _ ?_)))); (case ze1 => assumption); (case ze2 => assumption); (case ze3 => assumption); (case ze4 => exact (if_neg (by decide)).trans (if_pos rfl)); (case zhs => (with_reducible (repeat (first | assumption | exact Sub.refl _ | apply Sub.tail | apply Sub.app))))) | ((with_reducible refine hJ _ ?_); (rename Fr _ _ _ _ => kF); (rename News _ _ _ _ => kN); (rename TabOk _ _ _ => kB); (rename Off _ _ => kO); (with_unfolding_all refine' join_end kF kN ?zm0 ?zm1 ?zm2 ?zm3 ?zm4 ?zm5 ?zm6 ?zme1 ?zme2 kB ?zms kO); (case zm0 => with_reducible (repeat (first | assumption | exact List.mem_cons_self | (refine List.mem_cons_of_mem _ ?_) | (refine List.mem_append_right _ ?_)))); (case zm1 => with_reducible (repeat (first | assumption | exact List.mem_cons_self | (refine List.mem_cons_of_mem _ ?_) | (refine List.mem_append_right _ ?_)))); (case zm2 => with_reducible (repeat (first | assumption | exact List.mem_cons_self | (refine List.mem_cons_of_mem _ ?_) | (refine List.mem_append_right _ ?_)))); (case zm3 => with_reducible (repeat (first | assumption | exact List.mem_cons_self | (refine List.mem_cons_of_mem _ ?_) | (refine List.mem_append_right _ ?_)))); (case zm4 => with_reducible (repeat (first | assumption | exact List.mem_cons_self | (refine List.mem_cons_of_mem _ ?_) | (refine List.mem_append_right _ ?_)))); (case zm5 => with_reducible (repeat (first | assumption | exact List.mem_cons_self | (refine List.mem_cons_of_mem _ ?_) | (refine List.mem_append_right _ ?_)))); (case zm6 => with_reducible (repeat (first | assumption | exact List.mem_cons_self | (refine List.mem_cons_of_mem _ ?_) | (refine List.mem_append_right _ ?_)))); (case zme1 => assumption); (case zme2 => assumption); (case zms => (with_reducible (repeat (first | assumption | exact Sub.refl _ | apply Sub.tail | apply Sub.app))))) | ((with_reducible refine hQz _ _ ?_); (try k_fold))
  k_steps
  all_goals k_data)
end
end
theorem PySem.Challenge.cw_pq0158_01_holds : PySem.Challenge.rw_pq0158_01.Holds :=
  Mine.x
