import PyProof.Rows.All
import Wide.All
import OpenK.AllK
import Wide.FinOn
import PySem.Challenge.RW_rr0003_01
open PySem PySem.W PyProof.Rows
set_option Elab.async false
set_option maxRecDepth 100000
set_option maxHeartbeats 4000000
set_option compiler.extract_closed false
set_option linter.all false
set_option pp.deepTerms.threshold 4
set_option pp.proofs false
namespace Mine
def hd.tw15166618062012165473 : Unit := ()
section
local macro_rules | `(tactic| o_head $_) => `(tactic| exact False.elim (by assumption))
set_option Elab.async true in
set_option maxHeartbeats 0 in
/-- not a fact of worth: its making lays the written part of the heap (hd.heap_1_39), of which all that follows speaks -/
theorem hd (h : False) : PySem.Challenge.rw_rr0003_01.Holds := by (w_on; o_law; k_head; all_goals (exact False.elim (by assumption)))
end
/-- asks for the heap by its name, so that all that follows waits for hd, whatever the threads -/
theorem hd_laid : @hd.heap_1_39 = @hd.heap_1_39 := by (w_top off; rfl)
local macro_rules | `(tactic| walk_at $s:str) => do `(tactic| k_extra $(Lean.Syntax.mkStrLit ("M " ++ s.getString)))
local macro_rules | `(tactic| k_room) => `(tactic| k_extra "M k_room")
local macro_rules | `(tactic| k_ne) => `(tactic| k_extra "M k_ne")
local macro_rules | `(tactic| k_mem) => `(tactic| k_extra "M k_mem")
local macro_rules | `(tactic| kts_caught) => `(tactic| k_extra "M kts_caught")
local macro_rules | `(tactic| lcg_off) => `(tactic| k_extra "M lcg_off")
local macro_rules | `(tactic| lcg_src) => `(tactic| k_extra "M lcg_src")
section
open PySem.Calls PySem.Spec

abbrev xObj (C t : Addr) : Obj := { cls := .ref C, data := .fields #[.ref t, .none, .none, .none, .bool false, .none] }
abbrev tupObj (vs : List Value) : Obj := { cls := .type "tuple", data := .seq vs.toArray }
abbrev bmE : List Value := [.type "Exception", .type "BaseException", .type "object"]

section
variable {prog : Program} {w : World} {A : Around} {K : Frag} {C L fI : Addr} {R : Result → Shared → Prop} {s : Shared} {h₀ : Heap} {m : Str → Option Value} {news : List (Addr × Obj)}
variable {nm q : Str} {N : Addr} {bs : List Value} {hdct : Bool} {sn : List Str} {sub : List Value} {ab : Bool} {col : Option Bool} {dd : Option Addr} {k0 k1 k2 k3 k5 : Option Value}

theorem bx_call {rest : List Value} (F : Fr h₀ L s.heap m) (X₀ : K.In h₀) (NN : News h₀ L s.heap news)
    (ho : K.lookup C = some (excClassObj nm q C N bs bmE hdct sn sub ab col dd k0 k1 k2 k3 k5 "Exception.__new__"))
    (hi : findIn K (.ref C) "__init__" = some (some (.ref fI))) (hf : typeIn K (.ref fI) = some (.type "function")) (hcall : specialIn K (.ref C) "__call__" = some (some (.builtin "type.__call__")))
    (h : ∀ e t h', Fr h₀ L h' m → News h₀ L h' ((e, xObj C t) :: (t, tupObj rest) :: news) → (∀ p ∈ news, p.1 < t) → t < e → (∀ b o, s.heap.get? b = some o → h'.get? b = some o) → s.heap.get? e = none →
      codeAny (model prog w) (A.under (.builtin "type.__call__" ⟨.ref C :: rest, []⟩)) (.call (.ref fI) ⟨.ref e :: rest, []⟩) (InitBack e R) { s with heap := h' })
    (hrest : rest.length ≤ sizeLine := by size_fits) :
    codeAny (model prog w) A (.call (.ref C) ⟨rest, []⟩) R s := by
  have FF := PySem.F.excBase_Exception
  have X : K.In s.heap := X₀.keeps F.keep
  obtain ⟨hh, g, d, t, os⟩ := s
  have hC : hh.get? C = some (excClassObj nm q C N bs bmE hdct sn sub ab col dd k0 k1 k2 k3 k5 "Exception.__new__") := X _ _ ho
  have call := looks_specialIn (M := model prog w) X hcall
  refine codeAny_of_tree ?_
  show wpAny _ _ (callAny (.ref C) _) _ _ _
  refine nd_load hC ?_
  show wpAny _ _ (callAny.viaDunder (.ref C) _) _ _ _
  unfold callAny.viaDunder
  refine wpAny_bind (call.at ?_)
  dsimp only
  rw [tc_bind]
  refine wpAny_bind (wpAny_pure (wpAny_bind (wpAny_pure ?_)))
  refine wpAny_pure (a := Fin.again (.call (.builtin "type.__call__") ⟨.ref C :: rest, []⟩)) (And.intro rfl ?_)
  refine codeAny_call_builtin_at (Code.quiet_builtin _ (by decide +kernel)) entry_typeCall (wpAny_check_type_call_sub hC ?_)
  repeat (first | with_reducible refine wpAny_loadPart_at hC ?_ | with_reducible refine wpAny_madeBy_exc hC ?_ | wp_step)
  refine codeAny_call_builtin_code (Code.quiet_builtin _ FF.quiet) (wpAny_check_new_sub FF hC ?_)
  refine codeAny_exc_new_sub FF hC ?_ hrest
  show wpAny _ _ _ _ _ _
  have k : ∀ b o, hh.get? b = some o → ((hh.push (tupObj rest)).push (xObj C hh.objs.size)).get? b = some o := fun b o e => Heap.get?_push_of_some _ (Heap.get?_push_of_some _ e)
  have hC₁ := k _ _ hC
  have hget : ((hh.push (tupObj rest)).push (xObj C hh.objs.size)).get? (hh.objs.size + 1) = some (xObj C hh.objs.size) := by heap_get
  have hcC : (Value.ref C :: bmE).contains (.ref C) = true := by simp
  have X₁ : K.In ((hh.push (tupObj rest)).push (xObj C hh.objs.size)) := X.keeps k
  unfold isInstance
  repeat (first | with_reducible refine wpAny_loadPart_at hget ?_ | (with_reducible refine wpAny_isSubtype_exc hC₁ ?_; rw [hcC]) | wp_step)
  show wpAny _ _ (typeLookup (.ref C) _) _ _ _
  refine Looks.at (looks_findIn X₁ hi) ?_
  refine wpAny_holding (wpAny_bind (Looks.at (bind_fn X₁ _ hf) ?_))
  refine wpAny_bind (wpAny_call ?_)
  have N' := (NN.push F (tupObj rest)).push (F.push _) (xObj C hh.objs.size)
  rw [Heap.size_push] at N'
  refine codeAny_mono (h _ hh.objs.size _ ((F.push _).push _) N' (fun p hp => Heap.lt_size (NN p hp).1) (Nat.lt_succ_self _) k (Heap.get?_none_of_le (Nat.le_succ _))) fun r s' z => ?_
  rcases r with e | (v | _ | _ | _) <;> first | exact z | exact z.elim | skip
  obtain ⟨rfl, z⟩ := z
  exact wpAny_pure (wpAny_pure z)
end
end
section
open PySem.Calls PySem.Spec
abbrev mwObj (x : Addr) : Obj := { cls := .type "method-wrapper", data := .fields #[.builtin "Exception.__init__", .ref x] }

theorem slot_wd_get : Slot "wrapper_descriptor" "__get__" "wrapper_descriptor.__get__" := .of (owner := "wrapper_descriptor") (n := "__get__") (by rw [typeLookup_type, builtinLookup_eq_fast]; kernel_rfl) (by decide +kernel) (by decide +kernel) (by decide +kernel)
  (by first | exact .inl (by decide +kernel) | exact .inr (by decide +kernel)) (by rw [isSubtype_type]; kernel_rfl)
theorem entry_wd_get : entryFor table "wrapper_descriptor.__get__" = some Builtin.«wrapper_descriptor.__get__» := entryFor_of_tree (by kernel_rfl)
theorem args_wd_get (a b c : Value) : argsOk "wrapper_descriptor.__get__" ⟨[a, b, c], []⟩ := by unfold argsOk; kernel_rfl
theorem own_Exc_init : classOwn (.type "Exception") "__init__" = pure (some (.builtin "Exception.__init__")) := by
  first | rfl | (unfold classOwn; kernel_rfl)
theorem typeOf_Exc_init : typeOf (.builtin "Exception.__init__") = pure (.type "wrapper_descriptor") := by
  show builtinType _ = _
  rw [builtinType_eq_fast]; kernel_rfl

section
variable {prog : Program} {w : World} {M : Model} {A : Around} {E : Value → Shared → Prop} {h : Heap} {g : Array GenState} {d : Drawn} {t : Nat} {os : OsState}
variable {nm q : Str} {C N : Addr} {bs : List Value} {hdct : Bool} {sn : List Str} {sub : List Value} {ab : Bool} {col : Option Bool} {dd : Option Addr} {k0 k1 k2 k3 k5 : Option Value}

theorem bx_wd_get {x : Addr} {ox : Obj} {Q : Fin → Shared → Prop}
    (hC : h.get? C = some (excClassObj nm q C N bs bmE hdct sn sub ab col dd k0 k1 k2 k3 k5 "Exception.__new__")) (hx : h.get? x = some ox) (hxc : ox.cls = .ref C)
    (hq : Q (.done (.ret (.ref h.objs.size))) ⟨h.push (mwObj x), g, d, t, os⟩) :
    wpAny (model prog w) A (Builtin.«wrapper_descriptor.__get__» ⟨[.builtin "Exception.__init__", .ref x, .ref C], []⟩) Q E ⟨h, g, d, t, os⟩ := by
  have hcB : (Value.ref C :: bmE).contains (.type "Exception") = true := by simp
  have hs : ".".intercalate ("Exception.__init__".cutAt '.').dropLast = "Exception" := by decide +kernel
  unfold Builtin.«wrapper_descriptor.__get__»
  repeat (first | (with_reducible refine wpAny_loadPart_at hx ?_; rw [hxc]) | (with_reducible refine wpAny_isSubtype_exc hC ?_; rw [hcB]) | (rw [hs]; with_reducible refine wpAny_isSubtype_exc hC ?_; rw [hcB]) | wp_step)
  all_goals exact hq

theorem bx_super_ga {so x : Addr} {ox : Obj} {tk : Tok} {Q : Fin → Shared → Prop}
    (hC : h.get? C = some (excClassObj nm q C N bs bmE hdct sn sub ab col dd k0 k1 k2 k3 k5 "Exception.__new__")) (hx : h.get? x = some ox) (hxc : ox.cls = .ref C)
    (hso : h.get? so = some (ks_superObj C x C)) (hno : Looks (model prog w) h (opaqueClassAbove (.ref C)) none) (hxC : x ≠ C)
    (hq : Q (.done (.ret (.ref h.objs.size))) ⟨h.push (mwObj x), g, d, t, os⟩) :
    wpAny (model prog w) A (Builtin.«super.__getattribute__» ⟨[.ref so, .str "__init__" tk], []⟩) Q E ⟨h, g, d, t, os⟩ := by
  have hne : (Value.ref x == Value.ref C) = false := by simp [hxC]
  have hdt : (ks_superObj C x C).data = .fields #[.ref C, .ref x, .ref C] := rfl
  have f0 : (#[.ref C, .ref x, .ref C] : Array Value)[0]? = some (.ref C) := rfl
  have f1 : (#[.ref C, .ref x, .ref C] : Array Value)[1]? = some (.ref x) := rfl
  have f2 : (#[.ref C, .ref x, .ref C] : Array Value)[2]? = some (.ref C) := rfl
  have hn : (Str.ofString "__init__" == Str.ofString "__class__") = false := by decide +kernel
  have hT : (⟨h, g, d, t, os⟩ : Shared).TypeIs (.builtin "Exception.__init__") "wrapper_descriptor" := typeOf_Exc_init
  have hdrop : (List.dropWhile (fun y => y != Value.ref C) (Value.ref C :: bmE)).drop 1 = bmE := by simp [List.dropWhile]
  unfold Builtin.«super.__getattribute__»
  repeat (first
    | (with_reducible refine wpAny_field hso hdt f0 ?_) | (with_reducible refine wpAny_field hso hdt f1 ?_) | (with_reducible refine wpAny_field hso hdt f2 ?_)
    | (with_reducible refine ks_wpAny_notOpaque hno ?_)
    | (with_reducible refine wpAny_mroOf_exc hC ?_; rw [hdrop, List.forIn_cons])
    | (with_reducible refine wpAny_of_eq own_Exc_init ?_)
    | (with_reducible refine wpAny_typeOf hT ?_)
    | (with_reducible refine wpAny_of_eq slot_wd_get.lookup ?_)
    | (with_reducible refine wpAny_call_entry slot_wd_get hT entry_wd_get ?_ (args_wd_get _ _ _); refine bx_wd_get hC hx hxc ?_; refine ⟨_, rfl, ?_⟩)
    | (simp only [hn, hne, Bool.or_false, Bool.false_eq_true, if_false])
    | wp_step
    | dsimp only)
  all_goals exact hq

theorem bx_getMethod {so x : Addr} {ox : Obj} {pl : Sem Bool} {Q : Value × List Value → Shared → Prop}
    (hC : h.get? C = some (excClassObj nm q C N bs bmE hdct sn sub ab col dd k0 k1 k2 k3 k5 "Exception.__new__")) (hx : h.get? x = some ox) (hxc : ox.cls = .ref C)
    (hso : h.get? so = some (ks_superObj C x C)) (hno : Looks (model prog w) h (opaqueClassAbove (.ref C)) none) (hxC : x ≠ C)
    (hq : Q (.ref h.objs.size, []) ⟨h.push (mwObj x), g, d, t + 1, os⟩) :
    wpAny (model prog w) A (getMethod (.ref so) "__init__" pl) Q E ⟨h, g, d, t, os⟩ := by
  have hlk := F.ks_slot_super_ga.lookup
  have hcan := F.ks_canon_super_ga
  have hT : ∀ t', (⟨h, g, d, t', os⟩ : Shared).TypeIs (.ref so) "super" := fun _ => ⟨_, hso, rfl⟩
  unfold getMethod
  refine wpAny_bind (wpAny_specialOf (hT _) hlk ?_)
  show wpAny _ _ (if (Manifest.canonical "super.__getattribute__" != "object.__getattribute__") = true then _ else _) _ _ _
  rw [if_pos hcan]
  unfold getAttr getAttrBy
  refine wpAny_bind (wpAny_bind (wpAny_mkText (wpAny_holding (wpAny_bind (wpAny_typeOf (hT _) (wpAny_bind (wpAny_of_eq hlk ?_)))))))
  show wpAny _ _ (getAttrByItsOwn (.ref so) (.str "__init__" t) (.type "super") (.builtin "super.__getattribute__") true false) _ _ _
  unfold getAttrByItsOwn hookBefore callGetattribute boundAndCalled
  refine wpAny_bind (wpAny_of_eq (show (if onTheHeap (.type "super") then typeLookup (.type "super") "__getattr__" else pure none) = pure none from rfl) ?_)
  refine wpAny_bind (wpAny_attempt (wpAny_holding ?_))
  show wpAny _ _ (bindSpecial (.builtin "super.__getattribute__") (.ref so) >>= _) _ _ _
  refine wpAny_bind (wpAny_of_eq (F.ks_slot_super_ga.bind _) ?_)
  refine wpAny_mono (Q := fun v s' => v = .ref h.objs.size ∧ s' = ⟨h.push (mwObj x), g, d, t + 1, os⟩) (E := fun _ _ => False)
    (wpAny_call_entry F.ks_slot_super_ga (hT _) F.ks_entry_super_ga (bx_super_ga hC hx hxc hso hno hxC ⟨_, rfl, rfl, rfl⟩) (F.ks_gaArgs_super _ _)) (fun v s' hv => ?_) fun _ _ z => z.elim
  obtain ⟨rfl, rfl⟩ := hv
  exact wpAny_pure (wpAny_pure hq)
end
end
section
open PySem.Calls PySem.Spec Builtin Builtin.ObjectAttr
section
variable {prog : Program} {w : World} {A : Around} {E : Value → Shared → Prop} {h : Heap} {g : Array GenState} {d : Drawn} {t : Nat} {os : OsState}
variable {nm q : Str} {C N x : Addr} {bs : List Value} {sn : List Str} {sub : List Value} {ab : Bool} {col : Option Bool} {dd : Option Addr} {k0 k1 k2 k3 k5 : Option Value} {newId : String}
  {mN : Str → Option Value} {name : Str} {v : Value} {vs : Array Value} {sl : Array (Option Value)}
theorem bx_ownDict {M : Model} {Q : Option Addr → Shared → Prop}
    (hC : h.get? C = some (excClassObj nm q C N bs bmE true sn sub ab col dd k0 k1 k2 k3 k5 newId)) (hx : h.get? x = some ⟨.ref C, none, .fields vs, sl⟩)
    (hq : Q (some h.objs.size) ⟨(h.push { cls := .type "dict", data := .dict #[] }).update x fun o => { o with dict := some h.objs.size }, g, d, t, os⟩) :
    wpAny M A (ownDictForStores (.ref x)) Q E ⟨h, g, d, t, os⟩ := by
  have Tc : Looks M h (classData C) _ := (Looks.ld (part := none) hC).andThen .now
  have hx₁ : (h.push { cls := .type "dict", data := .dict #[] }).get? x = some ⟨.ref C, none, .fields vs, sl⟩ := Heap.get?_push_of_some _ hx
  unfold ownDictForStores instanceDict
  refine wpAny_bind (wpAny_loadPart_at hx ?_)
  refine wpAny_bind (Tc.at ?_)
  show wpAny _ _ (if (!true) = true then _ else _) _ _ _
  rw [if_neg (by decide)]
  show wpAny _ _ (if (!true || !typeHasDict (.ref C)) = true then _ else _) _ _ _
  rw [if_neg (by simp [typeHasDict])]
  refine wpAny_bind (wpAny_alloc' ?_)
  refine wpAny_bind (wpAny_update' hx₁ ?_)
  exact wpAny_pure hq
theorem bx_store0 {Q : Unit → Shared → Prop}
    (hC : h.get? C = some (excClassObj nm q C N bs bmE true sn sub ab col dd k0 k1 k2 k3 k5 newId)) (hn : h.Ns N mN) (hns : mN "__setattr__" = none) (hna : mN name = none)
    (hB : typeLookup (.type "Exception") name = pure none) (hx : h.get? x = some ⟨.ref C, none, .fields vs, sl⟩)
    (hq : ∀ h' tk' dx, h.get? dx = none → dx ≠ x → (∀ b o, b ≠ x → h.get? b = some o → h'.get? b = some o) → h'.get? x = some ⟨.ref C, some dx, .fields vs, sl⟩ →
      h'.Ns1 dx (fun y => if y = name then some v else none) → Q () ⟨h', g, d, tk', os⟩) :
    wpAny (model prog w) A (setAttr (.ref x) name v) Q E ⟨h, g, d, t, os⟩ := by
  have SF := PySem.F.store_Exception
  have f3 := SF.slot.bind (.ref x)
  have hpass := SF.passes (.ref x)
  unfold setAttr callSpecial? specialOf
  repeat (any_goals (first | assumption | with_reducible refine wpAny_loadPart_at hx ?_ | (with_reducible refine wpAny_typeLookup_exc hC hn SF.mro SF.slot.lookup ?_; rw [hns]) | wp_step))
  show codeAny _ _ (.call (.builtin "object.__setattr__") ⟨[.ref x, .str name t, v], []⟩) _ _
  have hent := SF.entry
  have hpl := SF.slot.plain
  refine codeAny_call_builtin hpl hent ?_
  have hcc : (⟨.ref C, none, .fields vs, sl⟩ : Obj).cls = .ref C := rfl
  with_reducible refine wpAny_check_sa (nameV := .str name t) (v := v) SF hC hx hcc ?_
  dsimp only
  have T1 : Looks (model prog w) h (typeOf (.ref x)) (.ref C) := (Looks.ld (part := none) hx).andThen .now
  rw [osa_eq, refuse_eq]
  refine wpAny_bind (wpAny_bind (T1.at (wpAny_bind (wpAny_mroOf_exc hC ?_))))
  rw [refuseLoop_ref, hpass]
  refine wpAny_pure (wpAny_bind (T1.at (wpAny_bind (wpAny_typeLookup_exc hC hn SF.mro hB ?_))))
  rw [hna]
  with_reducible refine wpAny_bind (wpAny_of_eq (show storeTaker? none = pure none from rfl) ?_)
  dsimp only
  unfold storeInOwnDict
  refine wpAny_bind (wpAny_pure ?_)
  show wpAny _ _ (ownDictForStores (.ref x) >>= _) _ _ _
  refine wpAny_bind (bx_ownDict hC hx ?_)
  have hx₁ : (h.push { cls := .type "dict", data := .dict #[] }).get? x = some ⟨.ref C, none, .fields vs, sl⟩ := Heap.get?_push_of_some _ hx
  have hxs : x ≠ h.objs.size := Nat.ne_of_lt (Heap.lt_size hx)
  have hgd : ((h.push { cls := .type "dict", data := .dict #[] }).update x fun o => { o with dict := some h.objs.size }).get? h.objs.size = some { cls := .type "dict", data := .dict #[] } :=
    (Heap.get?_update_ne _ _ _ _ hxs.symm).trans (Heap.get?_push_at rfl rfl)
  have hnd : ((h.push { cls := .type "dict", data := .dict #[] }).update x fun o => { o with dict := some h.objs.size }).Ns h.objs.size (fun _ => none) :=
    ⟨_, #[], _, hgd, rfl, fun e he => absurd he (by simp), fun _ => rfl⟩
  show wpAny _ _ (storeInDict h.objs.size (.str name t) name v) _ _ _
  unfold storeInDict newKeyGuard
  refine wpAny_bind (wpAny_pure (wpAny_bind (wpAny_nsSet1 (Heap.Ns1.of_empty hnd) fun h' hn' hs => ?_)))
  obtain ⟨oD, esD, epD, hoD, hdD, hcD⟩ := hn'.count (Within.cons name v Within.nil)
  refine wpAny_bind (wpAny_lookBehind hoD (by rw [hdD]; exact pastItsLine_dict (Nat.le_trans hcD (by rw [List.length_cons, List.length_nil, sizeLine_eq]; omega))) ?_)
  refine wpAny_pure (wpAny_pure (wpAny_pure ?_))
  refine hq h' _ h.objs.size (Heap.get?_none_of_le (Nat.le_refl _)) hxs.symm (fun b o hb hbo => ?_) ?_ hn'
  · exact (hs.2 b (Nat.ne_of_lt (Heap.lt_size hbo))).trans ((Heap.get?_update_ne _ _ _ _ hb).trans (Heap.get?_push_of_some _ hbo))
  · exact (hs.2 x hxs).trans (Heap.get?_update_self _ hx₁ rfl)
end
end
section
open PySem.Calls PySem.Spec
abbrev RW := PySem.Challenge.rw_rr0003_01

section
variable {nm q : Str} {C N : Addr} {bs : List Value} {hdct : Bool} {sn : List Str} {sub : List Value} {ab : Bool} {col : Option Bool} {dd : Option Addr} {k0 k1 k2 k3 k5 : Option Value}
theorem bx_call_mw {prog : Program} {w : World} {A : Around} {E : Value → Shared → Prop} {h : Heap} {g : Array GenState} {d : Drawn} {t : Nat} {os : OsState} {mw x t0 : Addr} {xd : Option Addr} {sl : Array (Option Value)} {v : Value} {Q : Value → Shared → Prop}
    (hC : h.get? C = some (excClassObj nm q C N bs bmE hdct sn sub ab col dd k0 k1 k2 k3 k5 "Exception.__new__"))
    (hmw : h.get? mw = some (mwObj x)) (hx : h.get? x = some ⟨.ref C, xd, .fields #[.ref t0, .none, .none, .none, .bool false, .none], sl⟩)
    (hq : ∀ h' t2, (∀ b o, b ≠ x → h.get? b = some o → h'.get? b = some o) → h'.get? x = some ⟨.ref C, xd, .fields #[.ref t2, .none, .none, .none, .bool false, .none], sl⟩ → Q .none ⟨h', g, d, t, os⟩) :
    wpAny (model prog w) A (call (.ref mw) [v]) Q E ⟨h, g, d, t, os⟩ := by
  have FF := PySem.F.excBase_Exception
  have hcB : (Value.ref C :: bmE).contains (.type "Exception") = true := by simp
  have hshort := FF.noStar
  refine wpAny_call (codeAny_of_tree ?_)
  show wpAny _ _ (callAny (.ref mw) _) _ _ _
  unfold callAny
  have hx' : (h.push (tupObj [v])).get? x = some ⟨.ref C, xd, .fields #[.ref t0, .none, .none, .none, .bool false, .none], sl⟩ := Heap.get?_push_of_some _ hx
  refine wpAny_bind (wpAny_load hmw ?_)
  repeat (first | with_reducible refine wpAny_loadPart_at hmw ?_ | (unfold checkBoundCall; simp only [FF.initKind, FF.initRow]) | with_reducible refine wpAny_loadPart_at hx ?_ | with_reducible refine wpAny_loadPart_at hC ?_ | (with_reducible refine wpAny_isSubtype_exc hC ?_; rw [hcB]) | wp_step)
  refine ⟨Code.quiet_builtin _ (by decide +kernel), codeAny_builtin FF.initEntry ?_⟩
  unfold Builtin.«BaseException.__init__»
  repeat (first | with_reducible refine wpAny_loadPart_at hx' ?_ | wp_step)
  show Q .none _
  refine hq _ h.objs.size (fun b o hb hne => ?_) ?_
  · exact (Heap.get?_update_other _ _ (Ne.symm hb)).trans (Heap.get?_push_of_some _ hne)
  · exact Heap.get?_update_self _ hx' rfl
end

section
variable {w : World} {A : Around} {R : Result → Shared → Prop} {s : Shared} {mg mb : Str → Option Value} {p : Program} {loose : List Str} {mean : ExcName → Option Value} {hb : Heap} {L₀ : Addr} {m₀ : Str → Option Value}
theorem bx_init {e t : Addr} {vcode vtold : Value} {args : List Value} (F₀ : Fr hb L₀ s.heap m₀) (X : (hd.heap_1_39 w.params).In hb) (T : Top p loose mean mg mb hb) (hroom : A.depth < recursionLimit)
    (he : s.heap.get? e = some (xObj 34 t)) (hen : hb.get? e = none)
    (hbd : ∀ fd, (∃ oc od sl, (hd.heap_1_39 w.params).lookup 31 = some ⟨oc, od, .func fd, sl⟩) → BindsTo s fd ⟨.ref e :: args, []⟩ [("self", .ref e), ("code", vcode), ("told", vtold)])
    (hq : ∀ h' tk dx t2 sl mA, (∀ b o, b ≠ e → s.heap.get? b = some o → h'.get? b = some o) → h'.get? e = some ⟨.ref 34, some dx, .fields #[.ref t2, .none, .none, .none, .bool false, .none], sl⟩ →
      s.heap.get? dx = none → dx ≠ e → h'.Ns1 dx mA → mA "code" = some vcode → R (.ok (.ret .none)) { s with heap := h', toks := tk }) :
    codeAny (model RW.row.prog w) A (.call (.ref 31) ⟨.ref e :: args, []⟩) R s := by
  revert X; k_fill; intro X
  have ho := (show (hd.heap_1_39 w.params).lookup 31 = some _ from by k_is)
  have Xs : (hd.heap_1_39 w.params).In s.heap := X.keeps F₀.keep
  refine' ks_codeAny_call_defAt hroom (Xs _ _ ho) rfl (T.nolimit.keeps F₀.keep) (codeRec_of Xs ?hcd) rfl (hbd _ ⟨_, _, _, ho⟩) ?hcell ?hloc (fun h₀ hns hk => ?_) ?c1 ?c2 ?c3
  case hcd => k_is
  case hcell => decide
  case hloc => exact locs rfl
  case c1 => rfl
  case c2 => rfl
  case c3 => rfl
  have hLe : s.heap.objs.size ≠ e := Nat.ne_of_gt (Heap.lt_size he)
  let B : Heap := s.heap.hide e
  have hkB : ∀ b o, hb.get? b = some o → B.get? b = some o := fun b o q => (Heap.hide_ne s.heap (fun z => by rw [z, hen] at q; cases q)).trans (F₀.keep b o q)
  have XB : (hd.heap_1_39 w.params).In B := X.keeps hkB
  have TB := T.keeps hkB
  have F₁ : Fr B s.heap.objs.size h₀ (fun x => ([("self", .ref e), ("code", vcode), ("told", vtold)] : List (Str × Value)).reverse.lookup x) := ⟨hns, fun b o q => hk b o (Heap.of_hide q), Nat.le_of_eq (Heap.hide_size _ _)⟩
  have I₁ : InstAt h₀ e (xObj 34 t) 34 none := ⟨hk _ _ he, rfl, rfl, trivial⟩
  have N₁ : News B s.heap.objs.size h₀ [(e, xObj 34 t)] := fun q hq => by rw [List.mem_singleton.mp hq]; exact ⟨hk _ _ he, hLe.symm, Heap.hide_self _ _⟩
  refine ks_wpAt_execs_cons (ks_wpAt_Expr_any (ks_wpAt_MethodCall ?_))
  refine ks_node F₁ XB N₁ TB (by k_is) (by rfl) (by rfl) I₁ (by k_is) (by rfl) (by first | rfl | decide +kernel) (by k_is) (by k_is) (by k_is) (by k_is) (by decide) (by rfl) (by rfl) (by rfl) (by rfl) (by decide +kernel) (by first | boot_by_name | rfl | kernel_rfl) ?_
  intro so h' F' N' l1
  have X' : (hd.heap_1_39 w.params).In h' := XB.keeps F'.keep
  have hC := (show (hd.heap_1_39 w.params).lookup 34 = some (excClassObj _ _ 34 _ _ bmE _ _ _ _ _ _ _ _ _ _ _ "Exception.__new__") from by k_is)
  have hno := looks_opaque (M := model RW.row.prog w) (C := 34) X' (show nsIn (hd.heap_1_39 w.params) cStatics "thirdparty.any" = some none from by k_is)
  have he' : h'.get? e = some (xObj 34 t) := (N' _ (.tail _ (.head _))).1
  have hne : e ≠ 34 := fun q => by have := XB _ _ hC; rw [← q] at this; rw [show B.get? e = none from Heap.hide_self _ _] at this; cases this
  refine bx_getMethod (X' _ _ hC) he' rfl (N' _ (.head _)).1 hno hne ?_
  have hmw : (h'.push (mwObj e)).get? h'.objs.size = some (mwObj e) := Heap.get?_push_at rfl rfl
  have F₂ := F'.push (mwObj e)
  refine callWith_of (P := fun h => h = h'.push (mwObj e)) rfl (fun h q => ⟨.machine, .inr (.inl rfl), ?_⟩) (evalArgs_plain ?_)
  · subst q
    exact (Looks.ld (part := none) hmw).andThen .now
  refine Calls.spliced_cons ?_
  show wpAny _ _ (eval _ _) _ _ _
  refine nameX_L (cn := "BasicError.__init__") (cl := [("__class__", 18)]) F₂ rfl ?_
  refine Calls.spliced_nil ⟨rfl, ?_⟩
  have he2 : (h'.push (mwObj e)).get? e = some (xObj 34 t) := Heap.get?_push_of_some _ he'
  refine bx_call_mw (Heap.get?_push_of_some _ (X' _ _ hC)) hmw he2 fun h₃ t2 k₃ he₃ => ?_
  have F₃ : Fr B s.heap.objs.size h₃ (fun x => ([("self", .ref e), ("code", vcode), ("told", vtold)] : List (Str × Value)).reverse.lookup x) := by
    obtain ⟨oL, es, ep, hL, r⟩ := F₂.ns
    exact ⟨⟨oL, es, ep, k₃ _ _ hLe hL, r⟩, fun b o q => k₃ b o (fun z => by rw [z, show B.get? e = none from Heap.hide_self _ _] at q; cases q) (F₂.keep b o q), F₂.above⟩
  show PySem.wpAt _ _ _ (execs _ _) _ _ _
  refine wpAt_of_wpAny ?_
  have hCl : ∀ {h : Heap}, (hd.heap_1_39 w.params).In h → h.get? 34 = some _ := fun x => x _ _ hC
  have hok := (show nsOkIn (hd.heap_1_39 w.params) 33 = true from by kernel_rfl)
  have q1 := (show nsIn (hd.heap_1_39 w.params) 33 "__setattr__" = some none from by k_is)
  have q2 := (show nsIn (hd.heap_1_39 w.params) 33 "code" = some none from by k_is)
  have q3 := (show nsIn (hd.heap_1_39 w.params) 33 "told" = some none from by k_is)
  have hB1 : typeLookup (.type "Exception") "code" = pure none := by rw [typeLookup_type, builtinLookup_eq_fast]; kernel_rfl
  have hB2 : typeLookup (.type "Exception") "told" = pure none := by rw [typeLookup_type, builtinLookup_eq_fast]; kernel_rfl
  have X₃ : (hd.heap_1_39 w.params).In h₃ := XB.keeps F₃.keep
  refine wpAny_execs_cons (plainObj_wpAny_Assign_Attribute ?_)
  refine nameX_L (cn := "BasicError.__init__") (cl := [("__class__", 18)]) F₃ rfl ?_
  refine nameX_L (cn := "BasicError.__init__") (cl := [("__class__", 18)]) F₃ rfl ?_
  refine bx_store0 (hCl X₃) (.of_isNs (isNs_of_in X₃ hok)) (nsMap_none_of_in X₃ hok q1) (nsMap_none_of_in X₃ hok q2) hB1 he₃ (fun h₄ tk₄ dx hdx hdxe k₄ he₄ ns₄ => ?_)
  have hBe : B.get? e = none := Heap.hide_self _ _
  have F₄ : Fr B s.heap.objs.size h₄ (fun x => ([("self", .ref e), ("code", vcode), ("told", vtold)] : List (Str × Value)).reverse.lookup x) := by
    obtain ⟨oL, es, ep, hL, r⟩ := F₃.ns
    exact ⟨⟨oL, es, ep, k₄ _ _ hLe hL, r⟩, fun b o q => k₄ b o (fun z => by rw [z, hBe] at q; cases q) (F₃.keep b o q), F₃.above⟩
  have X₄ : (hd.heap_1_39 w.params).In h₄ := XB.keeps F₄.keep
  have J₄ : h₄.Inst e 34 (fun y => if y = "code" then some vcode else none) := ⟨_, he₄, rfl, (fun c z => by cases z), .inr ⟨dx, rfl, hdxe, ns₄⟩⟩
  have hdB : B.get? dx = none := by
    cases q : B.get? dx with
    | none => rfl
    | some o => have := F₃.keep _ _ q; rw [hdx] at this; cases this
  have hdL : s.heap.objs.size ≠ dx := fun z => by
    obtain ⟨oL, es, ep, hL, r⟩ := F₃.ns
    rw [z, hdx] at hL; cases hL
  show wpAny _ _ (execs _ _) _ _ _
  refine wpAny_execs_cons (plainObj_wpAny_Assign_Attribute ?_)
  refine nameX_L (cn := "BasicError.__init__") (cl := [("__class__", 18)]) F₄ rfl ?_
  refine nameX_L (cn := "BasicError.__init__") (cl := [("__class__", 18)]) F₄ rfl ?_
  refine store_attr PySem.F.store_Exception (hCl X₄) (.of_isNs (isNs_of_in X₄ hok)) (nsMap_none_of_in X₄ hok q1) (nsMap_none_of_in X₄ hok q3) hB2 hne J₄ (fun h₅ tk₅ J₅ k₅ same₅ => ?_)
  show wpAny _ _ (execs _ _) _ _ _
  refine wpAny_execs_nil ?_
  obtain ⟨o₅, he₅, c5, d5, s5, dd5⟩ := same₅ _ he₄
  obtain ⟨oc, od, odt, osl⟩ := o₅
  dsimp only at c5 d5 s5
  have dd5' : od = some dx := dd5 dx rfl
  subst c5 d5 s5 dd5'
  have k₅' : ∀ b o, B.get? b = some o → h₅.get? b = some o := fun b o q => k₅ b o (fun z => by rw [z, hBe] at q; cases q) (fun o₀ dx' q0 q1 z => by
    rw [he₄] at q0; cases q0
    cases q1
    rw [z, hdB] at q; cases q) (F₄.keep b o q)
  obtain ⟨o6, he6, _, _, hd6⟩ := J₅
  rw [he₅] at he6
  cases he6
  rcases hd6 with ⟨z, _⟩ | ⟨dx', q0, _, ns5⟩
  · cases z
  cases q0
  refine hq h₅ _ dx t2 _ _ (fun b o hb0 q => k₅' b o ((Heap.hide_ne s.heap hb0).trans q)) he₅ ?_ hdxe ns5 rfl
  cases q : s.heap.get? dx with
  | none => rfl
  | some o => rw [show B.get? dx = some o from (Heap.hide_ne s.heap hdxe).trans q] at hdB; cases hdB
end
end
section
open PySem.Calls PySem.Spec

structure MadeB (h h' : Heap) (e dx : Addr) (code : Value) : Prop where
  keeps : ∀ b o, h.get? b = some o → h'.get? b = some o
  new : h.get? e = none
  newd : h.get? dx = none
  ne : dx ≠ e
  at_ : ∃ t sl, h'.get? e = some ⟨.ref 34, some dx, .fields #[.ref t, .none, .none, .none, .bool false, .none], sl⟩
  ns : ∃ mA, h'.Ns1 dx mA ∧ mA "code" = some code

section
variable {w : World} {A : Around} {E : Value → Shared → Prop} {s : Shared} {mg mb : Str → Option Value} {p : Program} {loose : List Str} {mean : ExcName → Option Value} {h₀ : Heap} {L : Addr} {m : Str → Option Value}
theorem bx_make {vcode : Value} {more : List Value} {Q : Value → Shared → Prop} (F : Fr h₀ L s.heap m) (X : (hd.heap_1_39 w.params).In h₀) (T : Top p loose mean mg mb h₀) (hroom : A.depth + 5 < recursionLimit) (hm : more.length ≤ 1)
    (hq : ∀ h' tk e dx, MadeB s.heap h' e dx vcode → Q (.ref e) { s with heap := h', toks := tk }) :
    wpAny (model RW.row.prog w) A (call (.ref 34) (vcode :: more)) Q E s := by
  revert X; k_fill; intro X
  have hC := (show (hd.heap_1_39 w.params).lookup 34 = some (excClassObj _ _ 34 _ _ bmE _ _ _ _ _ _ _ _ _ _ _ "Exception.__new__") from by k_is)
  refine wpAny_call (bx_call (fI := 31) (news := []) F X News.nil hC (by k_is) (by k_is) (by k_is) (fun e t h' F' N' l1 l2 kk ne => ?_) (by rw [List.length_cons, sizeLine_eq]; omega))
  have he := N' _ (.head _)
  have X' : (hd.heap_1_39 w.params).In h' := X.keeps F'.keep
  have hr : (A.under (.builtin "type.__call__" ⟨.ref 34 :: vcode :: more, []⟩)).depth < recursionLimit := by show A.depth + 1 < recursionLimit; omega
  have h31 := (show (hd.heap_1_39 w.params).lookup 31 = some _ from by k_is)
  have fin : ∀ (h2 : Heap) (tk : Nat) (dx t2 : Addr) (sl : Array (Option Value)) (mA : Str → Option Value), (∀ b o, b ≠ e → h'.get? b = some o → h2.get? b = some o) →
      h2.get? e = some ⟨.ref 34, some dx, .fields #[.ref t2, .none, .none, .none, .bool false, .none], sl⟩ → h'.get? dx = none → dx ≠ e → h2.Ns1 dx mA → mA "code" = some vcode →
      InitBack e (fun r s' => match r with | .ok (.ret v) => Q v s' | .ok _ => False | .error e => E e s') (.ok (.ret .none)) { s with heap := h2, toks := tk } := by
    intro h2 tk dx t2 sl mA k2 he2 hdx hne ns hc
    refine ⟨rfl, ?_⟩
    show Q (.ref e) _
    refine hq h2 tk e dx ⟨fun b o q => k2 b o (fun z => by rw [z, ne] at q; cases q) (kk b o q), ne, ?_, hne, ⟨_, _, he2⟩, ⟨_, ns, hc⟩⟩
    cases q : s.heap.get? dx with
    | none => rfl
    | some o => have := kk _ _ q; rw [hdx] at this; cases this
  rcases more with _ | ⟨v, _ | ⟨_, _⟩⟩
  · refine' bx_init (vcode := vcode) (vtold := .str "" 203) F' X T hr he.1 he.2.2 ?hbd fin
    case hbd =>
      intro fd hfd
      obtain ⟨oc, od, sl, hfd⟩ := hfd
      rw [h31] at hfd
      cases hfd
      exact binds_K (K := hd.heap_1_39 w.params) X' rfl (by k_is) rfl rfl rfl
  · refine' bx_init (vcode := vcode) (vtold := v) F' X T hr he.1 he.2.2 ?hbd fin
    intro fd hfd
    obtain ⟨oc, od, sl, hfd⟩ := hfd
    rw [h31] at hfd
    cases hfd
    exact binds_K (K := hd.heap_1_39 w.params) X' rfl (by k_is) rfl rfl rfl
  · simp at hm
end
end
section
open PySem.Calls PySem.Spec

def RaisesB (h₀ : Heap) (E : Value → Shared → Prop) (v : Value) (s₁ : Shared) : Prop :=
  ∃ h e dx code, v = .ref e ∧ (∀ b o, h₀.get? b = some o → h.get? b = some o) ∧ MadeB h s₁.heap e dx code ∧ E (.ref e) s₁

section
variable {nm q : Str} {C N : Addr} {bs : List Value} {hdct : Bool} {sn : List Str} {sub : List Value} {ab : Bool} {col : Option Bool} {dd : Option Addr} {k0 k1 k2 k3 k5 : Option Value}
variable {M : Model} {A : Around} {E : Value → Shared → Prop} {s : Shared} {env : Env} {h₀ : Heap}
theorem bx_raiseStmt {x : Sem Value} {Q : Flow → Shared → Prop} (hC₀ : h₀.get? 34 = some (excClassObj nm q 34 N bs bmE hdct sn sub ab col dd k0 k1 k2 k3 k5 "Exception.__new__")) (hh : A.handled = none)
    (h : wpAny M A x (RaisesB h₀ E) E s) : wpAny M A (raiseStmt env (some x) none) Q E s := by
  have hcB : (Value.ref 34 :: bmE).contains (.type "BaseException") = true := by simp
  unfold raiseStmt
  refine wpAny_bind (wpAny_mono h (fun v s₁ h₁ => ?_) fun _ _ x => x)
  obtain ⟨hp₀, e, dx, code, rfl, hk, mb, hE⟩ := h₁
  obtain ⟨t, sl, he⟩ := mb.at_
  have hC := mb.keeps _ _ (hk _ _ hC₀)
  obtain ⟨hp, g, d, tk, os⟩ := s₁
  repeat (first | with_reducible refine wpAny_loadPart_at he ?_ | with_reducible refine wpAny_loadPart_at hC ?_ | (with_reducible refine wpAny_isSubtype_exc hC ?_; rw [hcB]) | wp_step)
  exact wpAny_raiseNew_none hh hE

theorem bx_Raise {x : Str} {np cpos pos : Pos} {args : List Expr} {Q : Flow → Shared → Prop} (hC₀ : h₀.get? 34 = some (excClassObj nm q 34 N bs bmE hdct sn sub ab col dd k0 k1 k2 k3 k5 "Exception.__new__")) (hh : A.handled = none)
    (h : wpAny M A (eval (.Call (.Name x np) args [] cpos) env) (RaisesB h₀ E) E s) :
    wpAny M A (exec (.Raise (some (.Call (.Name x np) args [] cpos)) none pos) env) Q E s := by
  rw [arm_exec_Raise]
  refine wpAny_bind (wpAny_standAt ?_)
  refine bx_raiseStmt hC₀ hh ?_
  refine wpAny_bind (wpAny_mono h (fun v s₃ h₃ => wpAny_bind (wpAny_standAt (wpAny_pure h₃))) fun _ _ x => x)
end
end
section
open PySem.Calls PySem.Spec

theorem upto_ns1 {h h' : Heap} {a : Addr} {m : Str → Option Value} (x : h.UpToSlots h') (hn : h.Ns1 a m) : h'.Ns1 a m := by
  obtain ⟨o, es, ep, ho, hd, r⟩ := hn
  obtain ⟨sl, hs⟩ := x a o ho fun vs q => by rw [hd] at q; cases q
  exact ⟨_, es, ep, hs, hd, r⟩

def ExcD (h : Heap) (e dx : Addr) (code : Value) (vs : Array Value) : Prop :=
  (∃ sl, h.get? e = some ⟨.ref 34, some dx, .fields vs, sl⟩) ∧ dx ≠ e ∧ ∃ mA, h.Ns1 dx mA ∧ mA "code" = some code
def TracedD (h base : Heap) (e dx : Addr) (code fl : Value) : Prop :=
  ∃ vs a0 T oT ts, ExcD h e dx code vs ∧ vs[0]? = some a0 ∧ vs[1]? = some (.ref T) ∧ base.get? T = none ∧ T ≠ e ∧ h.get? T = some oT ∧ oT.data = .fields ts ∧ ts[3]? = some fl
theorem TracedD.toW {h base : Heap} {e dx : Addr} {code fl : Value} (x : TracedD h base e dx code fl) : ∃ a0, h.TracedAtW base e (.ref 34) a0 fl := by
  obtain ⟨vs, a0, T, oT, ts, ⟨⟨sl, he⟩, _⟩, h0, h1, hn, hne, hT, hdT, h3⟩ := x
  exact ⟨a0, _, vs, T, oT, ts, he, ⟨rfl, h0⟩, rfl, h1, hn, hne, hT, hdT, h3⟩
def NotedD (base : Heap) (l : List Env) (e dx : Addr) (code fl : Value) (h h' : Heap) : Prop :=
  base.StaysIn h' ∧ h'.FunFrames base l ∧ TracedD h' base e dx code fl ∧ h.UpToSlots h'

section
variable {M : Model} {A : Around} {E : Value → Shared → Prop} {s : Shared}
theorem entryD {base : Heap} {env : Env} {outer : List Env} {L e dx : Addr} {vs : Array Value} {head a0 code : Value} {hadNext : Bool} {Q : Unit → Shared → Prop}
    (hfr : A.frames = some (env :: outer)) (hl : s.heap.FunFrames base (env :: outer)) (hf : env.frame = some L) (he : ExcD s.heap e dx code vs) (hkb : base.StaysIn s.heap) (hen : base.get? e = none)
    (hsz : 1 < vs.size) (h0 : vs[0]? = some a0) (h : ∀ h', NotedD base (env :: outer) e dx code (rawInt L) s.heap h' → Q () { s with heap := h' }) :
    wpAny M A (do let a ← frameOf env; let pl ← entryPlaceOf L hadNext; let b ← EntryCells.newEntry head a .none (rawInt L) .none pl; setField (.ref e) 1 b) Q E s := by
  obtain ⟨⟨sl, hobj⟩, hdxe, mA, hns, hcd⟩ := he
  have offFrames : e ∉ (env :: outer).filterMap (·.frame) := fun hm => by
    obtain ⟨_, o, ho, hnf⟩ := hl.mem hm
    rw [hobj] at ho; cases ho; exact hnf vs rfl
  refine wpAny_bind (wpAny_frameOf_fun hfr hl hf fun h₁ hs₁ => ?_)
  refine wpAny_bind (wpAny_entryPlaceOf fun pl hpl => ?_)
  unfold EntryCells.newEntry newFields
  refine wpAny_bind (wpAny_newObj_type ?_ (hpl.sizeOk5 _ _ _ _ _))
  have he₁ : h₁.get? e = some ⟨.ref 34, some dx, .fields vs, sl⟩ := (hs₁.2.1 e offFrames).trans hobj
  have kb₁ : base.StaysIn h₁ := fun b o hbo => (hs₁.2.1 b fun hm => by rw [(hl.mem hm).1] at hbo; cases hbo).trans (hkb b o hbo)
  generalize hX : ({ cls := .type "traceback", dict := none, data := .fields ([head, .ref L, .none, rawInt L, .none] ++ (if pl.isEmpty then List.replicate 6 Value.none else pl)).toArray } : Obj) = X
  have he₂ : (h₁.push X).get? e = some ⟨.ref 34, some dx, .fields vs, sl⟩ := Heap.get?_push_of_some _ he₁
  refine wpAny_setField he₂ rfl hsz (h _ ?_)
  have hTe : h₁.objs.size ≠ e := Nat.ne_of_gt (Heap.lt_size he₁)
  have he₃ := Heap.get?_update_self (Obj.mapFields (·.setIfInBounds 1 (Value.ref h₁.objs.size))) he₂ rfl
  have hT₃ : ((h₁.push X).update e (Obj.mapFields (·.setIfInBounds 1 (Value.ref h₁.objs.size)))).get? h₁.objs.size = some X :=
    (Heap.get?_update_other (h₁.push X) _ (Ne.symm hTe)).trans (Heap.get?_push_size h₁ (by rw [← hX]; rfl))
  have keep : ∀ b o, b ≠ e → h₁.get? b = some o → ((h₁.push X).update e (Obj.mapFields (·.setIfInBounds 1 (Value.ref h₁.objs.size)))).get? b = some o :=
    fun b o hbe hb => by rw [Heap.get?_update_other _ _ (Ne.symm hbe)]; exact Heap.get?_push_of_some _ hb
  have noRecord : ∀ b o, s.heap.get? b = some o → (∀ vs, o.data ≠ .fields vs) → b ≠ e := fun b o hb hnf q => by
    rw [q, hobj] at hb; cases hb; exact hnf vs rfl
  have upto : s.heap.UpToSlots ((h₁.push X).update e (Obj.mapFields (·.setIfInBounds 1 (Value.ref h₁.objs.size)))) := fun b o hb hnf => by
    obtain ⟨sl', hs⟩ := hs₁.2.2 b o hb
    exact ⟨sl', keep b _ (noRecord b o hb hnf) hs⟩
  refine ⟨fun b o hbo => keep b o (fun q => by rw [q, hen] at hbo; cases hbo) (kb₁ b o hbo), hl.of_keeps fun b o hb hnf => ?_, ?_, upto⟩
  · obtain ⟨sl', hs⟩ := upto b o hb hnf
    exact ⟨_, hs, rfl⟩
  · refine ⟨_, a0, h₁.objs.size, X, ([head, .ref L, .none, rawInt L, .none] ++ (if pl.isEmpty then List.replicate 6 Value.none else pl)).toArray, ⟨⟨sl, he₃⟩, hdxe, mA, upto_ns1 upto hns, hcd⟩,
      by rw [Array.getElem?_setIfInBounds_ne (by decide)]; exact h0, by simp [hsz], kb₁.fresh, hTe, hT₃, by rw [← hX], ?_⟩
    simp

theorem noteD_first {base : Heap} {env : Env} {outer : List Env} {L e dx : Addr} {vs : Array Value} {a0 code : Value} {Q : Unit → Shared → Prop}
    (hfr : A.frames = some (env :: outer)) (hl : s.heap.FunFrames base (env :: outer)) (hf : env.frame = some L) (he : ExcD s.heap e dx code vs) (hkb : base.StaysIn s.heap) (hen : base.get? e = none)
    (h1 : vs[1]? = some .none) (h0 : vs[0]? = some a0) (h : ∀ h', NotedD base (env :: outer) e dx code (rawInt L) s.heap h' → Q () { s with heap := h' }) : wpAny M A (noteFrame (.ref e) env) Q E s := by
  obtain ⟨⟨sl, hobj⟩, _⟩ := id he
  unfold noteFrame
  simp only [hf]
  refine wpAny_bind (wpAny_field hobj rfl h1 ?_)
  rw [if_neg (by decide)]
  exact entryD hfr hl hf he hkb hen (Array.getElem?_eq_some_iff.mp h1).1 h0 h

theorem noteD_next {base : Heap} {env : Env} {outer : List Env} {L e dx : Addr} {code : Value} {Q : Unit → Shared → Prop}
    (hfr : A.frames = some (env :: outer)) (hl : s.heap.FunFrames base (env :: outer)) (hf : env.frame = some L) (ht : TracedD s.heap base e dx code .none) (hkb : base.StaysIn s.heap) (hen : base.get? e = none)
    (h : ∀ h', NotedD base (env :: outer) e dx code (rawInt L) s.heap h' → Q () { s with heap := h' }) : wpAny M A (noteFrame (.ref e) env) Q E s := by
  obtain ⟨vs, a0, T, oT, ts, ⟨⟨sl, hobj⟩, hdxe, mA, hns, hcd⟩, h0, h1, hnT, hTe, hT, hdT, h3⟩ := ht
  unfold noteFrame
  simp only [hf]
  refine wpAny_bind (wpAny_field hobj rfl h1 ?_)
  rw [if_pos (show (Value.ref T != Value.none) = true from by simp)]
  refine wpAny_bind (wpAny_field hT hdT h3 ?_)
  rw [if_neg (show ¬ ((Value.none == rawInt L) = true) from by simp [rawInt])]
  refine wpAny_bind (wpAny_setField hT hdT (Array.getElem?_eq_some_iff.mp h3).1 ?_)
  have off : ∀ b, b ≠ T → (s.heap.update T (Obj.mapFields (·.setIfInBounds 3 Value.none))).get? b = s.heap.get? b := fun b hb => Heap.get?_update_other _ _ (Ne.symm hb)
  have noRec : ∀ b o, s.heap.get? b = some o → (∀ vs, o.data ≠ .fields vs) → b ≠ T := fun b o hb hnf q => by
    rw [q, hT] at hb; cases hb; exact hnf ts hdT
  have up : s.heap.UpToSlots (s.heap.update T (Obj.mapFields (·.setIfInBounds 3 Value.none))) := fun b o hb hnf => ⟨o.slots, (off b (noRec b o hb hnf)).trans hb⟩
  refine entryD hfr (hl.of_keeps fun b o hb hnf => ⟨o, (off b (noRec b o hb hnf)).trans hb, rfl⟩) hf ⟨⟨sl, (off e (Ne.symm hTe)).trans hobj⟩, hdxe, mA, upto_ns1 up hns, hcd⟩
    (fun b o hbo => (off b fun q => by rw [q, hnT] at hbo; cases hbo).trans (hkb b o hbo)) hen (Array.getElem?_eq_some_iff.mp h1).1 h0 fun h' ⟨x1, x2, x3, x4⟩ => h h' ⟨x1, x2, x3, up.trans x4⟩

theorem flightD {base : Heap} {l : List Env} {e dx : Addr} {code fl : Value} {Q : Unit → Shared → Prop} (hkb : base.StaysIn s.heap) (hl : s.heap.FunFrames base l) (ht : TracedD s.heap base e dx code fl)
    (h : ∀ h', NotedD base l e dx code .none s.heap h' → Q () { s with heap := h' }) : wpAny M A (setFlight (.ref e) none) Q E s := by
  obtain ⟨vs, a0, T, oT, ts, ⟨⟨sl, hobj⟩, hdxe, mA, hns, hcd⟩, h0, h1, hnT, hTe, hT, hdT, h3⟩ := ht
  have hsz3 : 3 < ts.size := (Array.getElem?_eq_some_iff.mp h3).1
  have off : ∀ b, b ≠ T → (s.heap.update T (Obj.mapFields (·.setIfInBounds 3 ((none : Option Addr).elim Value.none fun f => rawInt f)))).get? b = s.heap.get? b := fun b hb => Heap.get?_update_other _ _ (Ne.symm hb)
  have noRec : ∀ b o, s.heap.get? b = some o → (∀ vs, o.data ≠ .fields vs) → b ≠ T := fun b o hb hnf q => by
    rw [q, hT] at hb; cases hb; exact hnf ts hdT
  have up : s.heap.UpToSlots (s.heap.update T (Obj.mapFields (·.setIfInBounds 3 ((none : Option Addr).elim Value.none fun f => rawInt f)))) := fun b o hb hnf => ⟨o.slots, (off b (noRec b o hb hnf)).trans hb⟩
  unfold setFlight
  refine wpAny_bind (wpAny_field hobj rfl h1 ?_)
  rw [if_pos (show (Value.ref T != Value.none) = true from by simp)]
  refine wpAny_setField hT hdT hsz3 (h _ ⟨fun b o hbo => (off b fun q => by rw [q, hnT] at hbo; cases hbo).trans (hkb b o hbo), hl.of_keeps fun b o hb hnf => ⟨o, (off b (noRec b o hb hnf)).trans hb, rfl⟩, ?_, up⟩)
  exact ⟨vs, a0, T, _, _, ⟨⟨sl, (off e (Ne.symm hTe)).trans hobj⟩, hdxe, mA, upto_ns1 up hns, hcd⟩, h0, h1, hnT, hTe, Heap.get?_update_self _ hT (Obj.isFreed_of_fields (Obj.data_mapFields hdT _)), Obj.data_mapFields hdT _, by simp [hsz3]⟩

def FlyD (base : Heap) (l : List Env) (e dx : Addr) (code fl : Value) (h : Heap) : Prop := base.StaysIn h ∧ base.get? e = none ∧ h.FunFrames base l ∧ TracedD h base e dx code fl ∧ dx ∉ l.filterMap (·.frame)
theorem off_tail {env : Env} {outer : List Env} {dx : Addr} (h : dx ∉ (env :: outer).filterMap (·.frame)) : dx ∉ outer.filterMap (·.frame) := fun hm => by
  obtain ⟨e', he, hf⟩ := List.mem_filterMap.mp hm
  exact h (List.mem_filterMap.mpr ⟨e', .tail _ he, hf⟩)

theorem leaveD_made {base h : Heap} {env : Env} {outer : List Env} {L e dx : Addr} {code : Value} {Q : Unit → Shared → Prop}
    (hfr : A.frames = some (env :: outer)) (hf : env.frame = some L) (hkb : base.StaysIn h) (hl : h.FunFrames base (env :: outer)) (hx : MadeB h s.heap e dx code)
    (hQ : ∀ h', FlyD base outer e dx code .none h' → s.heap.UpToSlots h' → Q () { s with heap := h' }) : wpAny M A (leaving env (.ref e)) Q E s := by
  obtain ⟨t, sl, hobj⟩ := hx.at_
  have hen : base.get? e = none := by
    cases q : base.get? e with
    | none => rfl
    | some o => have := hkb _ _ q; rw [hx.new] at this; cases this
  have off : dx ∉ (env :: outer).filterMap (·.frame) := fun hm => by
    obtain ⟨_, o, ho, _⟩ := hl.mem hm
    rw [hx.newd] at ho; cases ho
  unfold leaving
  refine wpAny_bind (noteD_first hfr (hl.of_keeps fun b o hb _ => ⟨o, hx.keeps b o hb, rfl⟩) hf ⟨⟨sl, hobj⟩, hx.ne, hx.ns⟩ (fun b o q => hx.keeps _ _ (hkb b o q)) hen rfl rfl fun h₁ ⟨a1, a2, a3, a4⟩ => ?_)
  refine flightD (s := { s with heap := h₁ }) a1 a2 a3 fun h₂ ⟨b1, b2, b3, b4⟩ => ?_
  obtain ⟨_, _, b2'⟩ := b2
  exact hQ h₂ ⟨b1, hen, b2', b3, off_tail off⟩ (a4.trans b4)

theorem leaveD_on {base : Heap} {env : Env} {outer : List Env} {L e dx : Addr} {code : Value} {Q : Unit → Shared → Prop}
    (hfr : A.frames = some (env :: outer)) (hf : env.frame = some L) (hfl : FlyD base (env :: outer) e dx code .none s.heap)
    (hQ : ∀ h', FlyD base outer e dx code .none h' → s.heap.UpToSlots h' → Q () { s with heap := h' }) : wpAny M A (leaving env (.ref e)) Q E s := by
  obtain ⟨f1, f2, f3, f4, f5⟩ := hfl
  unfold leaving
  refine wpAny_bind (noteD_next hfr f3 hf f4 f1 f2 fun h₁ ⟨a1, a2, a3, a4⟩ => ?_)
  refine flightD (s := { s with heap := h₁ }) a1 a2 a3 fun h₂ ⟨b1, b2, b3, b4⟩ => ?_
  obtain ⟨_, _, b2'⟩ := b2
  exact hQ h₂ ⟨b1, f2, b2', b3, off_tail f5⟩ (a4.trans b4)

theorem looksD {base : Heap} {env : Env} {outer : List Env} {L e dx : Addr} {code : Value} {Q : Unit → Shared → Prop}
    (hfr : A.frames = some (env :: outer)) (hf : env.frame = some L) (hfl : FlyD base (env :: outer) e dx code .none s.heap)
    (hQ : ∀ h', FlyD base (env :: outer) e dx code (rawInt L) h' → s.heap.UpToSlots h' → Q () { s with heap := h' }) : wpAny M A (noteFrame (.ref e) env) Q E s := by
  obtain ⟨f1, f2, f3, f4, f5⟩ := hfl
  exact noteD_next hfr f3 hf f4 f1 f2 fun h₁ ⟨a1, a2, a3, a4⟩ => hQ h₁ ⟨a1, f2, a2, a3, f5⟩ a4

theorem landsD {base : Heap} {l : List Env} {e dx : Addr} {code fl : Value} {Q : Unit → Shared → Prop} (hfl : FlyD base l e dx code fl s.heap)
    (hQ : ∀ h', FlyD base l e dx code .none h' → s.heap.UpToSlots h' → Q () { s with heap := h' }) : wpAny M A (setFlight (.ref e) none) Q E s := by
  obtain ⟨f1, f2, f3, f4, f5⟩ := hfl
  exact flightD f1 f3 f4 fun h₁ ⟨a1, a2, a3, a4⟩ => hQ h₁ ⟨a1, f2, a2, a3, f5⟩ a4
end
end
section
open PySem.Calls PySem.Spec

theorem slot_exc_ga : Slot "Exception" "__getattribute__" "BaseException.__getattribute__" := .of (owner := "BaseException") (n := "__getattribute__") (by rw [typeLookup_type, builtinLookup_eq_fast]; kernel_rfl) (by decide +kernel) (by decide +kernel) (by decide +kernel)
  (by first | exact .inl (by decide +kernel) | exact .inr (by decide +kernel)) (by rw [isSubtype_type]; kernel_rfl)
theorem entry_exc_ga : entryFor table "BaseException.__getattribute__" = some Builtin.«object.__getattribute__» :=
  entryFor_alias (id' := "object.__getattribute__") (by rw [fastTable_eq_tree]; kernel_rfl) (by first | rfl | decide +kernel) (by decide +kernel) (by rw [fastTable_eq_tree]; kernel_rfl)
theorem args_exc_ga (a b : Value) : argsOk "BaseException.__getattribute__" ⟨[a, b], []⟩ := by unfold argsOk; kernel_rfl
theorem lookIn_ns {o : Obj} {es : Array DictEntry} {ep : Nat} {name : Str} {v : Value} (hd : o.data = .dict es ep) (hf : nsFind es name = some v) : lookIn name o = some (some v) := by
  unfold lookIn
  rw [hd]
  dsimp only
  unfold nsFind findBy at hf
  rw [← Array.find?_toList] at hf
  cases q : es.toList.find? (fun e => e.key.isStr name) with
  | none => rw [q] at hf; cases hf
  | some en => rw [q] at hf; cases hf; rfl

section
variable {w : World} {A : Around} {E : Value → Shared → Prop} {s : Shared}
theorem bx_code {e dx : Addr} {code : Value} {vs : Array Value} {expr : Bool} {Q : Value → Shared → Prop} (X : (hd.heap_1_39 w.params).In s.heap) (he : ExcD s.heap e dx code vs) (hh : handedIn code = true)
    (hq : Q code { s with toks := s.toks + 1 }) : wpAny (model RW.row.prog w) A (getAttr (.ref e) "code" expr) Q E s := by
  revert X; k_fill; intro X
  obtain ⟨⟨sl, hobj⟩, hne, mA, ⟨od, es, ep, hod, hdt, _, _, hfind⟩, hcd⟩ := he
  obtain ⟨h, g, d, t, os⟩ := s
  have I : InstAt h e ⟨.ref 34, some dx, .fields vs, sl⟩ 34 (some od) := ⟨hobj, rfl, rfl, hod⟩
  have T1 := I.type (M := model RW.row.prog w)
  have hl := lookIn_ns hdt ((hfind "code").trans hcd)
  have hf : findObj (hd.heap_1_39 w.params) 34 (some od) "code" = some (.value code) := findObj_own (attr := none) (by k_is) (by k_is) (by k_is) hl
  have L1 := looks_find (M := model RW.row.prog w) X I hf
  have L2 := looks_findIn (M := model RW.row.prog w) X (show findIn (hd.heap_1_39 w.params) (.ref 34) "__getattribute__" = some (some (.builtin "BaseException.__getattribute__")) from by k_is)
  have L3 := looks_hook (M := model RW.row.prog w) (mc := .ref 34) (r := none) X (by rw [if_pos (show onTheHeap (.ref 34) = true from rfl)]; k_is)
  have L4 : Looks (model RW.row.prog w) h (isInstance (.ref e) (.type "BaseException")) true := T1.andThen (looks_mroIn X (by k_is))
  unfold getAttr getAttrBy
  refine wpAny_bind (wpAny_mkText (wpAny_holding (wpAny_bind (T1.at (wpAny_bind (L2.at ?_))))))
  show wpAny _ _ (getAttrByItsOwn (.ref e) (.str "code" t) (.ref 34) (.builtin "BaseException.__getattribute__") true expr) _ _ _
  unfold getAttrByItsOwn
  refine wpAny_bind (L3.at (wpAny_bind (wpAny_attempt (wpAny_holding ?_))))
  have hc : callGetattribute (.ref e) (.str "code" t) (.builtin "BaseException.__getattribute__") expr = boundAndCalled (.builtin "BaseException.__getattribute__") (.ref e) (.str "code" t) := by
    unfold callGetattribute
    rw [if_neg (by simp [onTheHeap])]
  rw [hc]
  unfold boundAndCalled
  refine wpAny_bind (wpAny_of_eq (slot_exc_ga.bind _) ?_)
  refine wpAny_call (codeAny_call_builtin slot_exc_ga.plain entry_exc_ga ?_)
  refine @check_slot (model RW.row.prog w) _ _ _ "BaseException.__getattribute__" "BaseException" "__getattribute__" (.ref e) [.str "code" t] [] _ (by decide +kernel) (by decide +kernel) L4 (args_exc_ga _ _) ?_
  unfold Builtin.«object.__getattribute__»
  refine wpAny_bind (wpAny_pure (wpAny_bind (wpAny_pure (wpAny_bind (T1.at (wpAny_bind (L1.at ?_)))))))
  refine wpAny_pure ?_
  show wpAny _ _ (handedOut code) _ _ _
  rw [handedOut_of hh]
  exact wpAny_pure hq
end
end
section
open PySem.Calls PySem.Spec

def RaisedB (base : Heap) (l : List Env) (e dx : Addr) (code : Value) (news : List (Addr × Obj)) (h : Heap) : Prop :=
  ∃ B, base.StaysIn B ∧ (∀ q ∈ news, B.get? q.1 = some q.2 ∧ base.get? q.1 = none) ∧ FlyD B l e dx code .none h

theorem flyD_base {base B h : Heap} {l : List Env} {e dx : Addr} {code fl : Value} (k : base.StaysIn B) (x : FlyD B l e dx code fl h) : FlyD base l e dx code fl h := by
  obtain ⟨f1, f2, f3, ⟨vs, a0, T, oT, ts, a1, a2, a3, a4, a5⟩, f5⟩ := x
  exact ⟨fun b o q => f1 b o (k b o q), fresh_of_stays k f2, funFrames_base k f3, ⟨vs, a0, T, oT, ts, a1, a2, a3, fresh_of_stays k a4, a5⟩, f5⟩

section
variable {M : Model} {A : Around} {E : Value → Shared → Prop} {s' : Shared} {base g g₂ h : Heap} {outer : List Env} {L e dx : Addr} {m : Str → Option Value} {env : Env} {Q : Unit → Shared → Prop} {news : List (Addr × Obj)} {code : Value}
theorem leave_newB (K : Below A base outer g) (hx : MadeB h s'.heap e dx code) (F : Fr g L h m) (N : News g L h news) (hf : env.frame = some L) (hk : env.scope.kind = .function)
    (hQ : ∀ h', RaisedB base outer e dx code news h' → g.UpToSlots h' → Q () { s' with heap := h' }) : wpAny M (A.deeper env) (leaving env (.ref e)) Q E s' := by
  have K' := pushX K F hf hk
  have hin : ∀ env' ∈ (env :: outer), ∀ b, env'.frame = some b → b ∈ (env :: outer).filterMap (·.frame) := fun env' he b hb => List.mem_filterMap.mpr ⟨env', he, hb⟩
  have st : base.StaysIn (hideAll h ((env :: outer).filterMap (·.frame))) := fun b o q => hideAll_get _ (K'.stays b o q) fun hm => by
    rw [(K'.frames.mem hm).1] at q; cases q
  have hl : ∀ q ∈ news, (hideAll h ((env :: outer).filterMap (·.frame))).get? q.1 = some q.2 ∧ base.get? q.1 = none := fun q hq => by
    refine ⟨hideAll_get _ (N q hq).1 fun hm => ?_, fresh_of_stays K.stays (N q hq).2.2⟩
    obtain ⟨env', he, hf'⟩ := List.mem_filterMap.mp hm
    rcases List.mem_cons.mp he with rfl | he
    · exact (N q hq).2.1 (Option.some.inj (hf.symm.trans hf')).symm
    · obtain ⟨o, ho, _⟩ := (K.frames.mem (List.mem_filterMap.mpr ⟨env', he, hf'⟩)).2
      rw [(N q hq).2.2] at ho; cases ho
  exact leaveD_made K'.stack hf (fun b o q => of_hideAll _ q) (funFrames_hide K'.frames hin) hx fun h' x1 x2 =>
    hQ h' ⟨_, st, hl, x1⟩ (((Heap.UpToSlots.of_keeps F.keep).trans (Heap.UpToSlots.of_keeps hx.keeps)).trans x2)

theorem leave_onB (K : Below A base outer g) (F : Fr g L g₂ m) (R : RaisedB base (env :: outer) e dx code news s'.heap) (hsm : g₂.UpToSlots s'.heap) (hf : env.frame = some L)
    (hQ : ∀ h', RaisedB base outer e dx code news h' → g.UpToSlots h' → Q () { s' with heap := h' }) : wpAny M (A.deeper env) (leaving env (.ref e)) Q E s' := by
  obtain ⟨B, hB, hl, hfl⟩ := R
  exact leaveD_on (Around.frames_deeper K.stack) hf hfl fun h' x1 x2 => hQ h' ⟨B, hB, hl, x1⟩ ((Heap.UpToSlots.of_keeps F.keep).trans (hsm.trans x2))
end

section
variable {prog : Program} {w : World} {A₀ : Around} {E : Value → Shared → Prop} {s' : Shared} {h₀ h : Heap} {outer : List Env} {L a e dx : Addr} {m : Str → Option Value} {name : Str} {scope : Scope} {cd code : Value}
  {n : Str} {b₀ : Stmt} {suite : List Stmt} {pos np : Pos} {rest : List ExceptHandler} {Q : Flow → Shared → Prop} {news : List (Addr × Obj)} {KF : Frag}
  {p : Program} {loose : List Str} {mg mb : Str → Option Value} {x : Str}
variable {nm q : Str} {N : Addr} {bs : List Value} {hdct : Bool} {sn : List Str} {sub : List Value} {ab : Bool} {col : Option Bool} {dd : Option Addr} {k0 k1 k2 k3 k5 : Option Value}
theorem caught_B (K : Below A₀ h₀ outer h₀) (F : Fr h₀ L h m) (hsm : h.UpToSlots s'.heap) (R : RaisedB h₀ (envOf name scope L a cd :: outer) e dx code news s'.heap)
    (X : KF.In h₀) (T : TopRead p loose mg mb h₀) (ex : nsIn KF mainGlobals x = some (some (.ref 34))) (hC₀ : KF.lookup 34 = some (excClassObj nm q 34 N bs bmE hdct sn sub ab col dd k0 k1 k2 k3 k5 "Exception.__new__"))
    (k : ∀ h' tk vs, Fr h₀ L h' (fun y => if y = n then some (.ref e) else m y) → News h₀ L h' news → ExcD h' e dx code vs →
      wpAny (model prog w) ((A₀.deeper (envOf name scope L a cd)).mark (some (.ref e))) (execs (b₀ :: suite) (envOf name scope L a cd))
        (fun f s₄ => wpAny (model prog w) (A₀.deeper (envOf name scope L a cd)) (do bindName (envOf name scope L a cd) n .none; unbindBehindTheSuite (envOf name scope L a cd) n pos) (fun _ s₅ => Q f s₅) E s₄)
        (AsSuiteRaised (model prog w) ((A₀.deeper (envOf name scope L a cd)).mark (some (.ref e))) (envOf name scope L a cd) n pos (notedBy (model prog w) ((A₀.deeper (envOf name scope L a cd)).mark (some (.ref e))) (envOf name scope L a cd) (cameBackBy (model prog w) (A₀.deeper (envOf name scope L a cd)) (envOf name scope L a cd) E)))
        { s' with heap := h', toks := tk })
    (hk : scope.kind = .function := by rfl) (hlo : (envOf name scope L a cd).kindOf n = some .local := by rfl) (hx : (envOf name scope L a cd).kindOf x = some .globalImplicit := by rfl) (hd : (x == ("__debug__" : Str)) = false := by decide) :
    wpAny (model prog w) (A₀.deeper (envOf name scope L a cd)) (noteFrame (.ref e) (envOf name scope L a cd))
      (fun _ s₂ => wpAny (model prog w) (A₀.deeper (envOf name scope L a cd)) (setFlight (.ref e) none) (fun _ s₃ =>
        wpAny (model prog w) (A₀.deeper (envOf name scope L a cd)) (handleBy (.ref e) (envOf name scope L a cd) (.ExceptHandler (some (.Name x np)) (some n) (b₀ :: suite) pos :: rest)) Q E s₃) E s₂) E s' := by
  obtain ⟨B, hB, hl, hfl⟩ := R
  have hL : B.get? L = none := by
    obtain ⟨_, ⟨L', _, hf, hn', _⟩, _⟩ := hfl.2.2.1
    obtain rfl : L = L' := Option.some.inj hf
    exact hn'
  refine looksD (Around.frames_deeper K.stack) rfl hfl fun h₄ hheld₄ hsm₄ => ?_
  refine landsD hheld₄ fun h₅ hheld hsm₅' => ?_
  have hsm₅ := hsm₄.trans hsm₅'
  have hheld' := flyD_base hB hheld
  have F₅ := F.of_stays hheld'.1 (hsm.trans hsm₅)
  obtain ⟨vs, a0, T5, oT, ts, ⟨⟨sl, hobj⟩, _⟩, _⟩ := id hheld'.2.2.2.1
  have hC := F₅.keep _ _ (X _ _ hC₀)
  refine wpAny_handleBy_cons (codeAny_handlers_test (name_K F₅ X T ex ?_ hk hx hd)) (by intro q; cases q)
  refine wpAny_excMatches_sub_self hC hobj rfl (by simp) (codeAny_handlers_suite_as ?_)
  refine landsD (s := { s' with heap := h₅ }) hheld fun h₆ hfl₆ hsm₆ => ?_
  have hfl₆' := flyD_base hB hfl₆
  have F₆ := F.of_stays hfl₆'.1 ((hsm.trans hsm₅).trans hsm₆)
  obtain ⟨vs6, a06, T6, oT6, ts6, x6, _⟩ := hfl₆'.2.2.2.1
  obtain ⟨⟨sl6, hobj6⟩, hne6, mA, hns6, hcd6⟩ := x6
  have Nl : News h₀ L h₆ news := fun q hq => ⟨hfl₆.1 _ _ (hl q hq).1, (fun z => by have := (hl q hq).1; rw [z, hL] at this; cases this), (hl q hq).2⟩
  have hLo : ∃ oL, h₆.get? L = some oL ∧ ∀ vs, oL.data ≠ .fields vs := by
    obtain ⟨oL, es, ep, e1, e2, _⟩ := F₆.ns
    exact ⟨oL, e1, fun vs z => by rw [e2] at z; cases z⟩
  refine wpAny_storeName_local hlo F₆.ns (fun h₇ hn7 hs7 => ?_) (by show (scope.kind == .class || (scope.kind == .module && L != mainGlobals)) = false; rw [hk]; rfl)
  have heL : e ≠ L := fun z => by
    obtain ⟨oL, e1, e2⟩ := hLo
    rw [← z, hobj6] at e1; cases e1; exact e2 _ rfl
  have hdL : dx ≠ L := fun z => hfl₆.2.2.2.2 (by rw [z]; exact List.mem_filterMap.mpr ⟨envOf name scope L a cd, .head _, rfl⟩)
  exact k h₇ _ vs6 (F₆.set hn7 hs7) (Nl.set hs7) ⟨⟨sl6, (hs7.2 e heL).trans hobj6⟩, hne6, mA, hns6.sameBut hs7 hdL, hcd6⟩
end
end
section
open PySem.Calls PySem.Spec

def lamsOf (i : Nat) : List Expr := match (PySem.Challenge.pw_rr0003_01.main.body[i]?) with
  | some (.FunctionDef _ _ [_, .Return (some (.List es _)) _] _ _ _ _ _ _ _) => es.filterMap fun t => match t with
    | .Tuple [_, l] _ _ => some l
    | _ => none
  | _ => []
section
variable {w : World} {A : Around} {E : Value → Shared → Prop} {s : Shared} {h₀ : Heap} {L : Addr} {m : Str → Option Value} {env : Env}
theorem raise_K {x : Str} {np cpos pos : Pos} {args : List Expr} {Q : Flow → Shared → Prop} (F : Fr h₀ L s.heap m) (X : (hd.heap_1_39 w.params).In h₀) (hh : A.handled = none)
    (h : wpAny (model RW.row.prog w) A (eval (.Call (.Name x np) args [] cpos) env) (RaisesB h₀ E) E s) :
    wpAny (model RW.row.prog w) A (exec (.Raise (some (.Call (.Name x np) args [] cpos)) none pos) env) Q E s := by
  revert X; k_fill; intro X
  have hC := (show (hd.heap_1_39 w.params).lookup 34 = some (excClassObj _ _ 34 _ _ bmE _ _ _ _ _ _ _ _ _ _ _ "Exception.__new__") from by k_is)
  exact bx_Raise (X _ _ hC) hh h
theorem raisesB_K {e dx : Addr} {code : Value} {h : Heap} {s₁ : Shared} (F : Fr h₀ L h m) (M : MadeB h s₁.heap e dx code) (hE : E (.ref e) s₁) : RaisesB h₀ E (.ref e) s₁ := ⟨h, e, dx, code, rfl, F.keep, M, hE⟩
end


theorem raisedB_sub {base h : Heap} {l : List Env} {e dx : Addr} {code : Value} {n n' : List (Addr × Obj)} (R : RaisedB base l e dx code n h) (hs : ∀ q ∈ n', q ∈ n) : RaisedB base l e dx code n' h := by
  obtain ⟨B, hB, hl, hf⟩ := R
  exact ⟨B, hB, fun q hq => hl q (hs q hq), hf⟩
theorem not_three {k : Int} {a b c : Value} (h1 : k ≠ 1) (h2 : k ≠ 2) (h3 : k ≠ 3) : (valueAt [((1 : Int), a), (2, b), (3, c)] k).isSome = false := by
  simp [valueAt, Ne.symm h1, Ne.symm h2, Ne.symm h3, h1, h2, h3]
end
section
open PySem.Calls PySem.Spec PyProof.Rows.LCg

theorem walksP {prog : Program} {w : World} {A : Around} {I : Addr} {fp wr : List Addr} {n : Nat} {P P' : Nat → Value → Prop} {St : Nat → Heap → Prop} (W : Walks prog w A I fp wr n P St) (h : ∀ i v, i < n → P i v → P' i v) : Walks prog w A I fp wr n P' St where
  sub := W.sub
  frame := W.frame
  item := fun i s Q E hi st hQ => W.item i s Q E hi st fun v h' tk hP => hQ v h' tk (h i v hi hP)
  done := W.done
  self := W.self

def StrSrcT (prog : Program) (w : World) (A : Around) (h₀ : Heap) (L : Addr) (m : Str → Option Value) (env : Env) (ct elt : Expr) (x : Str) (scope : Scope) (cl : List (Str × Addr)) (Fin : Shared → List Value → List (Addr × Obj) → Prop) (xv : Value) (s₁ : Shared) : Prop :=
  ∃ (y : Str) (t : Tok) (cs : List Nat) (n : Nat) (news : List (Addr × Obj)), xv = .str y t ∧ A.handled = none ∧ Fr h₀ L s₁.heap m ∧ News h₀ L s₁.heap news ∧ y.cps.all (· < 128) = true ∧ y.cps = cs.toArray ∧ cs.length = n ∧ n ≤ sizeLine ∧
    ∀ g, LCt.CompRestT prog w A h₀ L m env ct elt x scope cl { s₁ with heap := g } (fun _ => True) (fun i v => ∃ t, v = .str ⟨#[cs.getD i 0]⟩ t) (Fin { s₁ with heap := g }) n 0 [] news
section
variable {prog : Program} {w : World} {A : Around} {E : Value → Shared → Prop} {s : Shared} {h₀ : Heap} {L : Addr} {m : Str → Option Value} {env : Env} {ct elt iter : Expr} {x : Str} {px : Pos} {scope : Scope} {cl : List (Str × Addr)} {pos : Pos} {Q : Value → Shared → Prop}
theorem comp_str (F₀ : Fr h₀ L s.heap m)
    (hclos : closureFor scope env = pure cl) (hcell : ∀ y ∈ scope.names, y.2 ≠ .cell) (hkind : scope.kind = .function)
    (hnames : ∀ y ∈ scope.names, y.2 = .local → scope.names.lookup y.1 = some .local) (hx : scope.names.lookup x = some .local)
    (h : wpAny (model prog w) A (eval iter env) (StrSrcT prog w A h₀ L m env ct elt x scope cl (fun s₂ => FinE h₀ L m s₂ Q)) E s)
    (hs : ∀ x, foldedSetIterable iter env x = pure x := by intro _; rfl) :
    wpAny (model prog w) A (eval (.ListComp elt [⟨.Name x px, iter, [ct], 0⟩] scope pos) env) Q E s := by
  rw [eval_ListComp]
  refine wpAny_comprehension_free (use := none) rfl hs hclos hkind hnames (wpAny_mono h (fun xv s₁ h₁ => ?_) fun _ _ e => e)
  obtain ⟨y, t, cs, n, news, rfl, hh, F, N, ha, hy, rfl, hsz, R⟩ := h₁
  refine wpAny_pyIter_ascii ha ?_
  have up : ∀ b o, s₁.heap.get? b = some o → (s₁.heap.push { cls := .type "str_ascii_iterator", data := .fields #[.str y t, .int 0 0] }).get? b = some o := fun b o e => Heap.get?_push_of_some _ e
  have hlen : y.cps.size = cs.length := by rw [hy]; simp
  have W := walksP (P' := fun i v => ∃ t, v = .str ⟨#[cs.getD i 0]⟩ t) (Walks.strAscii (prog := prog) (w := w) (A := A) hh s₁.heap.objs.size y t) (fun i v hi hp => by
    obtain ⟨c, u, hc, rfl⟩ := hp
    refine ⟨u, ?_⟩
    rw [hy] at hc
    have : cs[i]? = some c := by simpa using hc
    rw [List.getD_eq_getElem?_getD, this]; rfl)
  rw [hlen] at W
  refine LCt.block_T W hsz (fun i h st => by obtain ⟨o, e, _⟩ := st; exact ⟨o, e⟩) (fun i h h' o nw st e e' _ _ _ => by obtain ⟨o', q, r⟩ := st; rw [e] at q; cases q; exact ⟨o, e', r⟩) hcell hkind hx ⟨_, Heap.get?_push_size _ rfl, rfl, rfl⟩ (fun b hb => ?_)
    (F.keeps up) (N.grown up) (Nat.ne_of_lt F.ns.lt) (next_is_new F) (fun p hp => Nat.ne_of_lt (Heap.lt_size (N p hp).1)) trivial (R _) ?_
  · rw [List.mem_singleton.mp hb]
    show s₁.heap.objs.size < (s₁.heap.push _).objs.size
    rw [Heap.size_push]; exact Nat.lt_succ_self _
  · intro D C h tk m' ys news' F' N' o1 hn hC₀ hD₀ hCL hDL hCD offC fin
    refine ⟨m', hn, fun h'' hs'' => fin D h'' tk (F'.change hs'' hCL hC₀) (fun p hp => ?_) o1⟩
    refine ⟨hs''.extBut _ _ ?_ (N' p hp).1, (N' p hp).2⟩
    rcases List.mem_cons.mp hp with rfl | hp
    · exact Ne.symm hCD
    · exact offC p hp
end
end
section
open PySem.Calls PySem.Spec PyProof.Rows.LCg

structure PutAt (name : Str) (v : Value) (es es' : List DictEntry) : Prop where
  same : getL name es' = some (some v)
  other : ∀ y, ¬ y = name → getL y es' = getL y es
  len : es'.length = es.length

theorem isStr_ne {k : Value} {a b : Str} (h : k.isStr a = true) (n : ¬ b = a) : k.isStr b = false := by
  cases k with
  | str x t =>
    have e : (x == a) = true := h
    have e' := eq_of_beq e
    subst e'
    show (x == b) = false
    exact beq_false_of_ne fun q => n q.symm
  | _ => cases h
theorem putAt {name : Str} {hsh : Int} {key v : Value} : ∀ {es : List DictEntry}, es.any (fun e => e.key.isStr name) = true → PutAt name v es (putL name hsh key v es)
  | [], h => by cases h
  | e :: r, h => by
    cases q : e.key.isStr name with
    | true =>
      have hp : putL name hsh key v (e :: r) = ⟨e.hash, e.key, v⟩ :: r := by simp [putL, q]
      rw [hp]
      refine ⟨?_, fun y hy => ?_, rfl⟩
      · simp only [getL, List.find?_cons, q]
      · have := isStr_ne q hy
        simp only [getL, List.find?_cons, this, List.any_cons, DictEntry.refKey]
        rfl
    | false =>
      have hp : putL name hsh key v (e :: r) = e :: putL name hsh key v r := by simp [putL, q]
      rw [hp]
      have hr : r.any (fun e => e.key.isStr name) = true := by simpa [q] using h
      have ih := putAt (name := name) (hsh := hsh) (key := key) (v := v) hr
      have hany : ∀ (l : List DictEntry), (putL name hsh key v l).any (·.refKey) = l.any (·.refKey) ∨ l.any (fun e => e.key.isStr name) = false := by
        intro l
        induction l with
        | nil => exact .inr rfl
        | cons a l il =>
          cases qa : a.key.isStr name with
          | true => left; simp [putL, qa, DictEntry.refKey]
          | false =>
            rcases il with il | il
            · left; simp [putL, qa, il]
            · right; simp [qa, il]
      have ha := (hany r).resolve_right (by rw [hr]; decide)
      refine ⟨?_, fun y hy => ?_, by simp [ih.len]⟩
      · have := ih.same
        simp only [getL, List.find?_cons, q, List.any_cons] at this ⊢
        cases hf : (putL name hsh key v r).find? (fun x => x.key.isStr name) with
        | some z => rw [hf] at this; exact this
        | none => rw [hf] at this; simp only at this; split at this <;> cases this
      · have := ih.other y hy
        simp only [getL, List.find?_cons, List.any_cons, ha] at this ⊢
        cases qy : e.key.isStr y with
        | true => rfl
        | false =>
          simp only
          cases hf : (putL name hsh key v r).find? (fun x => x.key.isStr y) with
          | some z =>
            rw [hf] at this
            cases hg : r.find? (fun x => x.key.isStr y) with
            | some z' => rw [hg] at this; exact this
            | none => rw [hg] at this; simp only at this; split at this <;> cases this
          | none =>
            rw [hf] at this
            cases hg : r.find? (fun x => x.key.isStr y) with
            | some z' => rw [hg] at this; simp only at this; split at this <;> cases this
            | none => rfl
theorem any_of_getL {name : Str} {es : List DictEntry} {v : Value} (h : getL name es = some (some v)) : es.any (fun e => e.key.isStr name) = true := by
  unfold getL at h
  cases hf : es.find? (fun e => e.key.isStr name) with
  | some z => exact List.any_eq_true.mpr ⟨z, List.mem_of_find?_eq_some hf, List.find?_some (p := fun e : DictEntry => e.key.isStr name) hf⟩
  | none => rw [hf] at h; simp only at h; split at h <;> cases h
section
variable {prog : Program} {w : World} {A : Around} {E : Value → Shared → Prop} {s : Shared} {h₀ : Heap} {L x dx C : Addr} {m : Str → Option Value} {K : Frag} {news : List (Addr × Obj)} {ox : Obj} {es : List DictEntry} {n : Nat} {name : Str} {v old : Value} {g : Obj → List (Addr × Obj)}
theorem updF_upd {d : Addr} {o o' : Obj} : ∀ {l : List (Addr × Obj)} {g : Obj → List (Addr × Obj)}, UpdF d o l g → Upd d o o' l (g o')
  | _, _, .head h => .head h
  | _, _, .tail h r => .tail h (updF_upd r)
theorem set_abs {Q : Unit → Shared → Prop} (F : Fr h₀ L s.heap m) (X₀ : K.In h₀) (N : News h₀ L s.heap news) (I : InstAt s.heap x ox C (some (dictOf es n))) (hd : ox.dict = some dx)
    (hs : findIn K (.ref C) "__setattr__" = some (some (.builtin "object.__setattr__"))) (hp : plainOver K C = true) (ht : takerIn K C name = some none) (hh : hasDictIn K C = true) (hl : getL name es = some (some old))
    (U : UpdF dx (dictOf es n) news g) (hz : es.length ≤ 1000)
    (h : ∀ h' es' n', Fr h₀ L h' m → News h₀ L h' (g (dictOf es' n')) → PutAt name v es es' → es'.length ≤ 1000 → Q () { s with heap := h', toks := s.toks + 2 }) :
    wpAny (model prog w) A (setAttr (.ref x) name v) Q E s := by
  have P := putAt (name := name) (hsh := PyData.keyHash w.params name) (key := .str name (s.toks + 1)) (v := v) (any_of_getL hl)
  exact set_dict F X₀ N I hd hs hp ht hh (by rw [hl]; rfl) rfl (updF_upd U) (by rw [P.len]; exact hz) fun h' F' N' => h h' _ _ F' N' P (by rw [P.len]; exact hz)
end
end
section
open PySem.Calls PySem.Spec PyProof.Rows.LCg

section
variable {prog : Program} {w : World} {A₀ : Around} {E : Value → Shared → Prop} {s' : Shared} {h₀ h : Heap} {outer : List Env} {L a e dx : Addr} {m : Str → Option Value} {name : Str} {scope : Scope} {cd code : Value}
  {n : Str} {b₀ : Stmt} {suite : List Stmt} {pos np : Pos} {rest : List ExceptHandler} {Q : Flow → Shared → Prop} {news : List (Addr × Obj)} {KF : Frag}
  {p : Program} {loose : List Str} {mg mb : Str → Option Value} {x : Str}
variable {nm q : Str} {N : Addr} {bs : List Value} {hdct : Bool} {sn : List Str} {sub : List Value} {ab : Bool} {col : Option Bool} {dd : Option Addr} {k0 k1 k2 k3 k5 : Option Value}
theorem caught_B2 (hA : A₀.frames = some outer) (F : Fr h₀ L h m) (hsm : h.UpToSlots s'.heap) (R : RaisedB h₀ (envOf name scope L a cd :: outer) e dx code news s'.heap)
    (X : KF.In h₀) (T : TopRead p loose mg mb h₀) (ex : nsIn KF mainGlobals x = some (some (.ref 34))) (hC₀ : KF.lookup 34 = some (excClassObj nm q 34 N bs bmE hdct sn sub ab col dd k0 k1 k2 k3 k5 "Exception.__new__"))
    (k : ∀ h' tk vs, Fr h₀ L h' (fun y => if y = n then some (.ref e) else m y) → News h₀ L h' news → ExcD h' e dx code vs → (∃ h₆, h.UpToSlots h₆ ∧ Heap.SameBut L h₆ h') →
      wpAny (model prog w) ((A₀.deeper (envOf name scope L a cd)).mark (some (.ref e))) (execs (b₀ :: suite) (envOf name scope L a cd))
        (fun f s₄ => wpAny (model prog w) (A₀.deeper (envOf name scope L a cd)) (do bindName (envOf name scope L a cd) n .none; unbindBehindTheSuite (envOf name scope L a cd) n pos) (fun _ s₅ => Q f s₅) E s₄)
        (AsSuiteRaised (model prog w) ((A₀.deeper (envOf name scope L a cd)).mark (some (.ref e))) (envOf name scope L a cd) n pos (notedBy (model prog w) ((A₀.deeper (envOf name scope L a cd)).mark (some (.ref e))) (envOf name scope L a cd) (cameBackBy (model prog w) (A₀.deeper (envOf name scope L a cd)) (envOf name scope L a cd) E)))
        { s' with heap := h', toks := tk })
    (hk : scope.kind = .function := by rfl) (hlo : (envOf name scope L a cd).kindOf n = some .local := by rfl) (hx : (envOf name scope L a cd).kindOf x = some .globalImplicit := by rfl) (hd : (x == ("__debug__" : Str)) = false := by decide) :
    wpAny (model prog w) (A₀.deeper (envOf name scope L a cd)) (noteFrame (.ref e) (envOf name scope L a cd))
      (fun _ s₂ => wpAny (model prog w) (A₀.deeper (envOf name scope L a cd)) (setFlight (.ref e) none) (fun _ s₃ =>
        wpAny (model prog w) (A₀.deeper (envOf name scope L a cd)) (handleBy (.ref e) (envOf name scope L a cd) (.ExceptHandler (some (.Name x np)) (some n) (b₀ :: suite) pos :: rest)) Q E s₃) E s₂) E s' := by
  obtain ⟨B, hB, hl, hfl⟩ := R
  have hL : B.get? L = none := by
    obtain ⟨_, ⟨L', _, hf, hn', _⟩, _⟩ := hfl.2.2.1
    obtain rfl : L = L' := Option.some.inj hf
    exact hn'
  refine looksD (Around.frames_deeper hA) rfl hfl fun h₄ hheld₄ hsm₄ => ?_
  refine landsD hheld₄ fun h₅ hheld hsm₅' => ?_
  have hsm₅ := hsm₄.trans hsm₅'
  have hheld' := flyD_base hB hheld
  have F₅ := F.of_stays hheld'.1 (hsm.trans hsm₅)
  obtain ⟨vs, a0, T5, oT, ts, ⟨⟨sl, hobj⟩, _⟩, _⟩ := id hheld'.2.2.2.1
  have hC := F₅.keep _ _ (X _ _ hC₀)
  refine wpAny_handleBy_cons (codeAny_handlers_test (name_K F₅ X T ex ?_ hk hx hd)) (by intro q; cases q)
  refine wpAny_excMatches_sub_self hC hobj rfl (by simp) (codeAny_handlers_suite_as ?_)
  refine landsD (s := { s' with heap := h₅ }) hheld fun h₆ hfl₆ hsm₆ => ?_
  have hfl₆' := flyD_base hB hfl₆
  have F₆ := F.of_stays hfl₆'.1 ((hsm.trans hsm₅).trans hsm₆)
  obtain ⟨vs6, a06, T6, oT6, ts6, x6, _⟩ := hfl₆'.2.2.2.1
  obtain ⟨⟨sl6, hobj6⟩, hne6, mA, hns6, hcd6⟩ := x6
  have Nl : News h₀ L h₆ news := fun q hq => ⟨hfl₆.1 _ _ (hl q hq).1, (fun z => by have := (hl q hq).1; rw [z, hL] at this; cases this), (hl q hq).2⟩
  have hLo : ∃ oL, h₆.get? L = some oL ∧ ∀ vs, oL.data ≠ .fields vs := by
    obtain ⟨oL, es, ep, e1, e2, _⟩ := F₆.ns
    exact ⟨oL, e1, fun vs z => by rw [e2] at z; cases z⟩
  refine wpAny_storeName_local hlo F₆.ns (fun h₇ hn7 hs7 => ?_) (by show (scope.kind == .class || (scope.kind == .module && L != mainGlobals)) = false; rw [hk]; rfl)
  have heL : e ≠ L := fun z => by
    obtain ⟨oL, e1, e2⟩ := hLo
    rw [← z, hobj6] at e1; cases e1; exact e2 _ rfl
  have hdL : dx ≠ L := fun z => hfl₆.2.2.2.2 (by rw [z]; exact List.mem_filterMap.mpr ⟨envOf name scope L a cd, .head _, rfl⟩)
  exact k h₇ _ vs6 (F₆.set hn7 hs7) (Nl.set hs7) ⟨⟨sl6, (hs7.2 e heL).trans hobj6⟩, hne6, mA, hns6.sameBut hs7 hdL, hcd6⟩ ⟨h₆, (hsm.trans hsm₅).trans hsm₆, hs7⟩
end

def WorkK (w : World) (f : Addr) (code : Str) (ls : List (Addr × Obj)) (P : List (Addr × Obj) → Prop) : Prop :=
  ∀ {eL : Env} {base h₀ : Heap} {outer : List Env} {cn : Str} {cs : Scope} {L a : Addr} {ccd : Value} {cl : List (Str × Addr)} {m mg mb : Str → Option Value} {p : Program} {loose : List Str} {mean : ExcName → Option Value} {s : Shared} {Q E : Value → Shared → Prop},
    Below (callerA.deeper eL) base outer h₀ → Fr h₀ L s.heap m → (hd.heap_1_39 w.params).In h₀ → Top p loose mean mg mb h₀ → cs.kind = .function → News h₀ L s.heap ls →
    (∀ g h' tk e dx tc ls', P ls' → Fr h₀ L g m → RaisedB base (envX cn cs L a ccd cl :: outer) e dx (.str code tc) ls' h' → g.UpToSlots h' → E (.ref e) { s with heap := h', toks := tk }) →
    wpAny (model RW.row.prog w) ((callerA.deeper eL).deeper (envX cn cs L a ccd cl)) (call (.ref f) []) Q E s

theorem caller_frames : callerA.frames = some [] := rfl


theorem w_EX15_0 : True := by
  k_with_none
  k_with "M k_room" => ((try simp only [depth_mark, depth_under_make, depth_under_kw, depth_in1, depth_deeper]); exact Nat.lt_of_lt_of_le (m := 900) (by decide) (by decide))
  k_with "M exec Raise some none" => (k_here; (with_reducible show wpAny _ _ (exec (Stmt.Raise (some (Expr.Call (Expr.Name ("BasicError" : Str) _) _ [] _)) none _) _) _ _ _); k_dflt (refine' raise_K ?zzF ?zzX ?zzh ?_; (case zzF => k_asm); (case zzX => k_asm); (case zzh => first | rfl | assumption); k_whole))
  k_with "M call ref" => (k_here; k_dflt (refine wpAny_call ?_; refine' code_defC ?zzk1 ?zzk2 ?zzk3 ?zzk4 ?zzk5 ?zzkA ?zzkF ?zzkK ?zzk6 ?zzk7 ?zzk8 ?zzk9 ?zzkB ?zzkD ?_ ?zzc2 ?zzc3 ?zzc4; (case zzkA => exact Around.frames_deeper (Below.stack (by assumption))); (case zzkF => exact rfl); (case zzkK => exact rfl); (case zzk1 => k_asm); (case zzk2 => k_asm); (case zzk3 => k_asm); (case zzk4 => k_asm); (case zzk5 => k_asm); (case zzk6 => k_is); (case zzk7 => k_is); (case zzk8 => k_room); (case zzk9 => first | exact BindsTo.of_eq rfl | exact binds_K (by k_in) rfl (by k_is) rfl rfl rfl | fail "k_enter: no rule for these arguments"); (case zzkB => exact rfl); (case zzkD => decide +kernel); (case zzc2 => exact rfl); (case zzc3 => exact rfl); (case zzc4 => exact rfl); k_whole; intro g'w L'w h'w tk'w cells'w FG'w F'w N'w Y'w B'w X'w T'w l1'w; (try k_lt l1'w); k_cells Y'w; (try simp only [List.cons_append, List.nil_append] at N'w); (try dsimp only); (try k_lift B'w); (try k_fold)))
  k_with "M call ref" => (k_here; k_dflt (refine wpAny_call ?_; refine' code_def ?zzk1 ?zzk2 ?zzk3 ?zzk4 ?zzk5 ?zzkA ?zzkF ?zzkK ?zzk6 ?zzk7 ?zzk8 ?zzk9 ?zzkB ?_ ?zzc2 ?zzc3 ?zzc4 ?zzc5; (case zzkA => exact Around.frames_deeper (Below.stack (by assumption))); (case zzkF => exact rfl); (case zzkK => exact rfl); (case zzk1 => k_asm); (case zzk2 => k_asm); (case zzk3 => k_asm); (case zzk4 => k_asm); (case zzk5 => k_asm); (case zzk6 => k_is); (case zzk7 => k_is); (case zzk8 => k_room); (case zzk9 => first | exact BindsTo.of_eq rfl | exact binds_K (by k_in) rfl (by k_is) rfl rfl rfl | fail "k_enter: no rule for these arguments"); (case zzc5 => decide); (case zzkB => exact locs rfl); (case zzc2 => exact rfl); (case zzc3 => exact rfl); (case zzc4 => exact rfl); k_whole; intro g'w L'w h'w FG'w F'w N'w B'w X'w T'w; (try dsimp only); (try k_lift B'w); (try k_fold)))
  k_with "M call ref" => (k_here; (with_reducible show wpAny _ _ (call (Value.ref 34) _) _ _ _); k_dflt (refine' bx_make ?zzF ?zzX ?zzT ?zzr ?zzl ?_; (case zzF => k_asm); (case zzX => k_asm); (case zzT => k_asm); (case zzr => k_room); (case zzl => first | exact Nat.zero_le _ | exact Nat.le_refl _); k_whole); intro h'w tk'w e'w dx'w mb'w)
  k_with "M RaisesB" => (k_dflt (refine' raisesB_K ?zzF ?zzM ?_; (case zzF => k_asm); (case zzM => assumption); k_whole))
  k_with "M leaving ref" => (k_here; first
  | (refine' leave_newB ?zzk1 ?zzk0 ?zzk2 ?zzk3 ?zzkf ?zzkk ?_; (case zzk0 => assumption); (case zzk1 => assumption); (case zzk2 => assumption); (case zzk3 => k_asm); (case zzkf => rfl); (case zzkk => rfl); k_whole; intro h'w R'w U'w; (try dsimp only at R'w U'w ⊢))
  | (refine' leave_onB ?zzk1 ?zzk2 ?zzk3 ?zzk4 ?zzkf ?_; (case zzk3 => assumption); (case zzk1 => assumption); (case zzk4 => assumption); (case zzk2 => assumption); (case zzkf => rfl); k_whole; intro h'w R'w U'w; (try dsimp only at R'w U'w ⊢)))
  k_with "M getAttr ref" => (k_here; k_dflt (refine' get_own ?zzk1 ?zzk2 ?zzk3 ?zzk4 ?zzk5 ?zzk6 ?zzk7 ?zzk8 ?zzk9 ?_; (case zzk1 => k_asm); (case zzk2 => k_asm); (case zzk3 => k_inst); (case zzk4 => k_is); (case zzk5 => k_is); (case zzk6 => k_is); (case zzk7 => k_is); (case zzk8 => assumption); (case zzk9 => k_handed); k_whole))
  k_with "M eval Name" => (k_here; kc_free; k_dflt (refine' nameX_F ?zzN ?zzc ?zzm ?zzd ?_ ?zza ?zzb; (case zza => rfl); (case zzb => rfl); (case zzN => k_asm); (case zzc => rfl); (case zzm => k_mem); (case zzd => assumption); k_whole))
  k_with "M compareOp In int ref" => (k_here; k_dflt (refine kda_in (knd := PySem.intKind _ _) (by k_asm) (by k_mem) (by k_asm) (by k_asm) (intKind_is _ _ _ _) false (not_three (by omega) (by omega) (by omega)) ?_))
  k_with "M compareOp NotIn int ref" => (k_here; k_dflt (refine kdg_notin (knd := PySem.intKind _ _) (by k_asm) (by k_mem) (by k_asm) (by k_asm) (intKind_is _ _ _ _) false (not_three (by omega) (by omega) (by omega)) ?_))
  k_with "M exec For Name Attribute cons nil" => (k_here; (rename Fr _ _ _ _ => lF'w); (with_unfolding_all refine' For_turns lF'w ?_; k_whole))
  k_with "M pyIter ref" => (k_here; (with_reducible show wpAny _ _ (pyIter (Value.ref _)) (fun it s₂ => TurnsAt _ _ _ _ _ _ _ _ _ it s₂) _ _); (rename Fr _ _ _ _ => lF'w); (rename News _ _ _ _ => lN'w); (with_unfolding_all first
  | refine kta_keys (knd := PySem.intKind _ _) (enc := PyData.int) (xs := [Itm.tok (fun t => Value.int 1 t), Itm.tok (fun t => Value.int 2 t), Itm.tok (fun t => Value.int 3 t)]) (by rfl) lF'w lN'w (by k_mem) (by k_asm) (by k_asm) (fun _ _ h => Value.isInt_shape h) (by rfl) ?_
  | refine kta_keys (knd := PySem.intKind _ _) (enc := PyData.int) (xs := [Itm.tok (fun t => Value.int 1 t), Itm.tok (fun t => Value.int 2 t)]) (by rfl) lF'w lN'w (by k_mem) (by k_asm) (by k_asm) (fun _ _ h => Value.isInt_shape h) (by rfl) ?_
  | refine kta_keys (knd := PySem.intKind _ _) (enc := PyData.int) (xs := [Itm.tok (fun t => Value.int 1 t)]) (by rfl) lF'w lN'w (by k_mem) (by k_asm) (by k_asm) (fun _ _ h => Value.isInt_shape h) (by rfl) ?_
  | refine kta_keys (knd := PySem.intKind _ _) (enc := PyData.int) (xs := []) (by rfl) lF'w lN'w (by k_mem) (by k_asm) (by k_asm) (fun _ _ h => Value.isInt_shape h) (by rfl) ?_); clear lF'w lN'w; intro i'w l1'w; (try k_lt l1'w))
  k_with "M eval ListComp" => (k_here; lct_look; (with_reducible show wpAny _ _ (eval (Expr.ListComp _ [⟨Expr.Name _ _, Expr.Name _ _, _, _⟩] _ _) _) _ _ _); k_dflt (refine comp_str (F₀ := by k_asm) (by with_unfolding_all rfl) (by decide) (by rfl) (by decide) (by rfl) ?_))
  k_with "M eval ListComp" => (k_here; lct_look; (with_reducible show wpAny _ _ (eval (Expr.ListComp _ [⟨Expr.Name _ _, Expr.Attribute _ _ _, _, _⟩] _ _) _) _ _ _); k_dflt (refine comp_dict (F₀ := by k_asm) (by with_unfolding_all rfl) (by decide) (by rfl) (by decide) (by rfl) ?_))
  k_with "M StrSrcT" => (k_here; (with_unfolding_all first
  | refine ⟨_, _, [65], 1, _, rfl, (by rfl), (by k_asm), (by k_asm), (by decide), (by decide), (by rfl), (by size_fits), ?_⟩
  | refine ⟨_, _, [66], 1, _, rfl, (by rfl), (by k_asm), (by k_asm), (by decide), (by decide), (by rfl), (by size_fits), ?_⟩
  | refine ⟨_, _, [67], 1, _, rfl, (by rfl), (by k_asm), (by k_asm), (by decide), (by decide), (by rfl), (by size_fits), ?_⟩
  | refine ⟨_, _, [68], 1, _, rfl, (by rfl), (by k_asm), (by k_asm), (by decide), (by decide), (by rfl), (by size_fits), ?_⟩
  | refine ⟨_, _, [78, 79, 78, 69], 4, _, rfl, (by rfl), (by k_asm), (by k_asm), (by decide), (by decide), (by rfl), (by size_fits), ?_⟩); intro g'w)
  k_with "M DictSrcT" => (k_here; (with_unfolding_all refine ⟨_, _, _, [1, 2, 3], 3, _, rfl, (by rfl), (by k_asm), (by k_asm), (by k_mem), (by k_asm), (by k_asm), (by rfl), (by rfl), (by size_fits), ?_⟩); intro g'w)
  k_with "M CompRestT" => ((with_unfolding_all refine LCt.CompRestT.succ ?_); intro v'w I'w oI'w C'w oC'w D'w m'w h'w tk'w E'w hv'w hC'w hx'w F'w N'w off'w ne'w; (obtain ⟨t9'w, hv9'w⟩ := hv'w); subst hv9'w; (try simp only [List.getD_cons_zero, List.getD_cons_succ] at hx'w))
  k_with "M lcg_off" => assumption
  k_with "M lcg_src" => first | exact True.intro | (show _ ∈ _; k_mem)
  k_with "M eval ListComp" => (k_here; lct_look; (with_reducible show wpAny _ _ (eval (Expr.ListComp _ [⟨Expr.Tuple _ _ _, Expr.Name _ _, [_], _⟩] _ _) _) _ _ _); k_dflt (refine comp_pairs_none (F₀ := by k_asm) (by with_unfolding_all rfl) (by decide) (by rfl) (by decide) (by rfl) (by rfl) (by decide) ?_))
  k_with "M PairsSrc" => (k_here; (with_unfolding_all refine ⟨_, _, _, _, rfl, (by rfl), (by k_asm), (by k_asm), (by k_mem), (by size_fits), ?_, ?_⟩); (with_unfolding_all (refine List.forall_mem_cons.mpr ⟨⟨_, _, _, _, _, rfl, (by k_mem), (by rfl), (by rfl), ?_⟩, List.forall_mem_cons.mpr ⟨⟨_, _, _, _, _, rfl, (by k_mem), (by rfl), (by rfl), ?_⟩, List.forall_mem_nil _⟩⟩)); (intro C'w oC'w m'w s'w E'w hC'w hx'w hy'w F'w N'w); rotate_left; (intro C'w oC'w m'w s'w E'w hC'w hx'w hy'w F'w N'w); rotate_left; (intro D'w h'w tk'w F'w N'w); rotate_left)
  k_with "M And" => (k_here; (exact ⟨by first | rfl | exact decide_eq_false (by omega), _, rfl⟩))
  k_with "M exec For Tuple Call cons nil" => (k_here; (rename Fr _ _ _ _ => lF'w); (with_unfolding_all refine' For_turns lF'w ?_; k_whole))
  k_with "M kts_caught" => first | exact PutAt.same (by assumption) | assumption | (refine Eq.trans (PutAt.other (by assumption) _ (by decide)) ?_; k_extra "M kts_caught")
  k_with "M getAttr ref" => (k_here; k_dflt (refine' get_own ?zzk1 ?zzk2 ?zzk3 ?zzk4 ?zzk5 ?zzk6 ?zzk7 ?zzk8 ?zzk9 ?_; (case zzk1 => k_asm); (case zzk2 => k_asm); (case zzk3 => k_inst); (case zzk4 => k_is); (case zzk5 => k_is); (case zzk6 => k_is); (case zzk7 => k_is); (case zzk8 => kts_caught); (case zzk9 => k_handed); k_whole))
  k_with "M setAttr ref" => (k_here; k_dflt (refine' set_abs ?zzk1 ?zzk2 ?zzk3 ?zzk4 ?zzk5 ?zzk6 ?zzk7 ?zzk8 ?zzk9 ?zzk10 ?zzk12 ?zzk13 ?_; (case zzk1 => k_asm); (case zzk2 => k_asm); (case zzk3 => k_asm); (case zzk4 => k_inst); (case zzk5 => exact rfl); (case zzk6 => k_is); (case zzk7 => k_is); (case zzk8 => k_is); (case zzk9 => k_is); (case zzk10 => kts_caught); (case zzk12 => k_updF); (case zzk13 => assumption); k_whole); intro h'w es'w n'w F'w N'w P'w z'w; (try dsimp only at N'w))
  k_with "M CompRestP" => (with_unfolding_all (refine LCp.CompRestP.succ ?_; intro v'w hv'w; lcg_open hv'w; refine ⟨_, _, _, _, _, rfl, by k_mem, rfl, rfl, ?_⟩; intro I'w oI'w C'w oC'w D'w m'w h'w tk'w E'w hC'w hx'w hy'w F'w N'w off'w ne'w))
  k_with "M lcg_src" => first | exact True.intro | (show _ ∈ _; k_mem) | exact Or.inl (Or.inl (by assumption)) | exact Or.inl (by assumption) | exact Or.inr ⟨_, by k_mem, rfl, _, rfl⟩
  k_with "M getAttr ref" => (k_here; (with_reducible show wpAny _ _ (getAttr (Value.ref _) (Str.ofString "code") _) _ _ _); (refine' bx_code ?zzX ?zze ?zzh ?_; (case zzX => k_in); (case zze => assumption); (case zzh => rfl); k_whole))
  trivial
theorem law_code {w : World} {f : Addr} {code : Str} {ls big : List (Addr × Obj)} {P : List (Addr × Obj) → Prop} (Wk : WorkK w f code ls P) {h₀ : Heap} {ln : Str} {lsc : Scope} {L a : Addr} {lcd : Value} {cells : List (Str × Addr)} {m mg mb : Str → Option Value} {p : Program} {loose : List Str} {mean : ExcName → Option Value} {s : Shared} {Q E : Value → Shared → Prop}
  (F : Fr h₀ L s.heap m) (N : News h₀ L s.heap big) (X : (hd.heap_1_39 w.params).In h₀) (T : Top p loose mean mg mb h₀) (hk : lsc.kind = .function) (hsub : ∀ q ∈ ls, q ∈ big) (hfn : FnAt f s.heap)
  (hQ : ∀ h' tk tc ls', P ls' → Fr h₀ L h' m → (∀ q, (q ∈ ls' ∨ (q ∈ big ∧ q.1 ∉ ls.map (·.1))) → h'.get? q.1 = some q.2 ∧ q.1 ≠ L ∧ h₀.get? q.1 = none) → Q (.str code tc) { s with heap := h', toks := tk }) :
  wpAny (model RW.row.prog w) (callerA.deeper (envX ln lsc L a lcd cells)) (call (.ref 411) [.ref f]) Q E s := by
  revert X; k_fill; intro X
  have hC := (show (hd.heap_1_39 w.params).lookup 411 = some ⟨_, _, .func (fnOf _ _ _ _ _ _ _ _ _ _ _ _), _⟩ from by k_is)
  have hL₀ : h₀.get? L = none := by
    cases q : h₀.get? L with
    | none => rfl
    | some o => exact absurd (Nat.lt_of_lt_of_le (Heap.lt_size q) F.above) (Nat.lt_irrefl _)
  obtain ⟨oL, esL, epL, eL, eLd, eLk, eLf⟩ := id F.ns
  generalize hG : hideAll s.heap (ls.map (·.1)) = G
  generalize hBe : hideAll G [L] = B'
  have nls : ∀ b o, h₀.get? b = some o → b ∉ ls.map (·.1) := fun b o e q => by
    obtain ⟨p, hp, rfl⟩ := List.mem_map.mp q
    rw [(N p (hsub p hp)).2.2] at e; cases e
  have nL : L ∉ ls.map (·.1) := fun q => by
    obtain ⟨p, hp, e⟩ := List.mem_map.mp q
    exact (N p (hsub p hp)).2.1 e
  have gG : ∀ b o, s.heap.get? b = some o → b ∉ ls.map (·.1) → G.get? b = some o := fun b o e n => hG ▸ hideAll_get _ e n
  have ofG : ∀ b o, G.get? b = some o → s.heap.get? b = some o := fun b o e => of_hideAll _ (hG ▸ e)
  have ofB : ∀ b o, B'.get? b = some o → G.get? b = some o := fun b o e => of_hideAll _ (hBe ▸ e)
  have gB : ∀ b o, G.get? b = some o → b ≠ L → B'.get? b = some o := fun b o e n => hBe ▸ hideAll_get _ e (by simpa using n)
  have BL : B'.get? L = none := hBe ▸ hideAll_none _ (by simp)
  have sG : h₀.StaysIn G := fun b o e => gG b o (F.keep b o e) (nls b o e)
  have sB : h₀.StaysIn B' := fun b o e => gB b o (sG b o e) (fun q => by rw [q, hL₀] at e; cases e)
  have szG : G.objs.size = s.heap.objs.size := hG ▸ hideAll_size _ _
  have szB : B'.objs.size = s.heap.objs.size := (hBe ▸ hideAll_size _ _ : B'.objs.size = G.objs.size).trans szG
  have hGL : G.get? L = some oL := gG L oL eL nL
  have hnf : ∀ vs, oL.data ≠ .fields vs := fun vs z => by rw [eLd] at z; cases z
  have stk : (callerA.deeper (envX ln lsc L a lcd cells)).frames = some [envX ln lsc L a lcd cells] := Around.frames_deeper caller_frames
  have BW : Below (callerA.deeper (envX ln lsc L a lcd cells)) B' [envX ln lsc L a lcd cells] G := ⟨stk, ofB, ⟨(by rw [hk]; decide), ⟨L, oL, rfl, BL, hGL, hnf⟩, trivial⟩⟩
  have XG := X.keeps sG
  have TG := T.keeps sG
  have XTB := And.intro (X.keeps sB) (T.keeps sB)
  have FN := And.intro F N
  refine wpAny_call ?_
  refine codeAny_call_def (binds := [("work", .ref f)]) (by k_room) (X.keeps F.keep _ _ hC) rfl (T.nolimit.keeps F.keep) (codeRec_of (X.keeps F.keep) (by k_is)) rfl (BindsTo.of_eq rfl) (by decide) (locs rfl) (fun h₁ hns hk₁ => ?_)
  generalize hL1 : s.heap.objs.size = L1 at hns
  have F1 : Fr G L1 h₁ _ := ⟨hns, fun b o e => hk₁ b o (ofG b o e), Nat.le_of_eq (szG.trans hL1)⟩
  have N1 : News G L1 h₁ ls := fun q hq => ⟨hk₁ _ _ (N q (hsub q hq)).1, hL1 ▸ Nat.ne_of_lt (Heap.lt_size (N q (hsub q hq)).1), hG ▸ hideAll_none _ (List.mem_map_of_mem hq)⟩
  have hfn1 : ∀ h : Heap, (∀ b o, s.heap.get? b = some o → h.get? b = some o) → FnAt f h := fun h k => by
    obtain ⟨c1, c2, c3, c4, ho⟩ := hfn
    exact ⟨c1, c2, c3, c4, k _ _ ho⟩
  clear F N X T
  show wpAny _ ((callerA.deeper (envX ln lsc L a lcd cells)).deeper (envOf _ _ L1 411 _)) (execs _ (envOf _ _ L1 411 _)) _ _ _
  dsimp only
  k_steps
  refine callWith_F0 (q := f) (hfn1 _ hk₁) ?_
  refine Wk BW F1 XG TG rfl N1 (fun g h' tk e dx tc ls' hP Fg R U => ?_)
  obtain ⟨XB, TB⟩ := XTB
  have Fb := Fr.mk Fg.ns (fun b o e => Fg.keep b o (ofB b o e)) (Nat.le_of_eq (szB.trans hL1))
  refine caught_B2 (KF := hd.heap_1_39 w.params) stk Fb U R XB (topRead_of TB) (by k_is) (by k_is) (fun h2 tk2 vs2 F2 N2 X2 U2 => ?_)
  obtain ⟨h6, u6, s6⟩ := U2
  have hLL1 : L ≠ L1 := hL1 ▸ Nat.ne_of_lt (Heap.lt_size eL)
  have nsL : h2.Ns L m := (u6.ns ⟨oL, esL, epL, Fg.keep L oL hGL, eLd, eLk, eLf⟩).sameBut s6 hLL1
  obtain ⟨oL2, esL2, epL2, eL2, rL2⟩ := id nsL
  have N9 : News B' L1 h2 ((L, oL2) :: ls') := fun q hq => by
    rcases List.mem_cons.mp hq with rfl | hq
    · exact ⟨eL2, hLL1, BL⟩
    · exact N2 q hq
  have hneL : ∀ q ∈ ls', q.1 ≠ L := fun q hq z => by
    obtain ⟨B, hB, hl, hfl⟩ := R
    obtain ⟨_, _, _, ⟨L', _, hf, hn', _⟩, _⟩ := hfl.2.2.1
    obtain rfl : L = L' := Option.some.inj hf
    have := (hl q hq).1
    rw [z, hn'] at this
    cases this
  clear R N1 F1 Fb Fg XG TG N2 BW
  k_steps
  rename Fr B' L1 _ _ => F9
  rename News B' L1 _ _ => N10
  obtain ⟨F, N⟩ := FN
  refine hQ _ _ _ ls' hP ⟨⟨oL2, esL2, epL2, (N10 (L, oL2) (.head _)).1, rL2⟩, fun b o e => F9.keep b o (sB b o e), F.above⟩ (fun q hq => ?_)
  rcases hq with hq | ⟨hq, hn⟩
  · have z := N10 q (.tail _ hq)
    exact ⟨z.1, hneL q hq, fresh_of_stays sB z.2.2⟩
  · have z := N q hq
    exact ⟨F9.keep _ _ (gB _ _ (gG _ _ z.1 hn) z.2.1), z.2⟩
end
section
theorem w_EX16 : True := by
  k_with_none
  trivial
open PySem.Calls PySem.Spec PyProof.Rows.LCg


def codesL : List Str := ["NF", "SN", "RG", "OD", "FC", "OV", "OM", "UL", "BS", "DD", "DZ", "ID", "TM", "OS", "LS", "ST", "CN", "UF", "NR", "RW", "UE", "WE", "FO", "BM", "BN", "AO", "FF", "EF", "NM"]
def IsCode (k : Int) (code : Str) : Prop := ∃ j : Nat, k = j + 1 ∧ codesL[j]? = some code
theorem IsCode.lo {k : Int} {code : Str} (h : IsCode k code) : 1 ≤ k := by obtain ⟨j, rfl, _⟩ := h; omega
theorem IsCode.hi {k : Int} {code : Str} (h : IsCode k code) : k ≤ 29 := by
  obtain ⟨j, rfl, hj⟩ := h
  have : j < codesL.length := (List.getElem?_eq_some_iff.mp hj).1
  have e : codesL.length = 29 := rfl
  omega
theorem IsCode.isIn {k : Int} {code : Str} (h : IsCode k code) : codesL.any (· == code) = true := by
  obtain ⟨j, rfl, hj⟩ := h
  exact List.any_eq_true.mpr ⟨code, List.mem_of_getElem? hj, by simp⟩
theorem codesL_nodup : codesL.Nodup := by decide
theorem strs_get {vs : List Value} {ys : List Str} (h : StrsAre vs ys) : ∀ (j : Nat) (y : Str), ys[j]? = some y → ∃ t, vs[j]? = some (.str y t) := by
  induction h with
  | nil => intro j y e; cases e
  | cons y t _ ih =>
    intro j z e
    cases j with
    | zero => cases e; exact ⟨t, rfl⟩
    | succ j => exact ih j z e
theorem strs_not {vs : List Value} {ys : List Str} (h : StrsAre vs ys) (code : Str) : ∀ (i : Nat) (hi : i < vs.length), (∀ y, ys[i]? = some y → ¬ y = code) → isStrOf code vs[i] = false := by
  induction h with
  | nil => intro i hi; cases hi
  | cons y t _ ih =>
    intro i hi hn
    cases i with
    | zero =>
      have := hn y rfl
      show (y == code) = false
      exact beq_false_of_ne this
    | succ i => exact ih i (Nat.lt_of_succ_lt_succ hi) (fun z hz => hn z hz)
theorem strs_len {vs : List Value} {ys : List Str} (h : StrsAre vs ys) : vs.length = ys.length := by
  induction h with
  | nil => rfl
  | cons _ _ _ ih => simp [ih]
section
variable {prog : Program} {w : World} {A : Around} {E : Value → Shared → Prop} {s : Shared} {h₀ : Heap} {L D : Addr} {m : Str → Option Value} {news : List (Addr × Obj)} {vs : List Value} {n : Nat} {k : Int} {code : Str} {t u : Tok} {Q : Value → Shared → Prop}
theorem in_code (N : News h₀ L s.heap news) (hm : (D, listOf vs.toArray n) ∈ news) (hi : StrsAre vs codesL) (hc : IsCode k code) (h : Q (.bool true) s) : wpAny (model prog w) A (compareOp .In (.str code t) (.ref D)) Q E s :=
  in_list_strs ⟨_, (N _ hm).1, rfl, _, rfl⟩ hi (by rw [hc.isIn]; exact h)
theorem index_code (N : News h₀ L s.heap news) (hm : (D, listOf vs.toArray n) ∈ news) (hi : StrsAre vs codesL) (hc : IsCode k code) (h : Q (.int (k - 1) s.toks) { s with toks := s.toks + 1 }) : wpAny (model prog w) A (call (.builtin "list.index") [.ref D, .str code t]) Q E s := by
  obtain ⟨j, rfl, hj⟩ := hc
  have hlen : vs.length = 29 := (strs_len hi).trans rfl
  have hjl : j < codesL.length := (List.getElem?_eq_some_iff.mp hj).1
  have hj29 : j < 29 := hjl
  obtain ⟨u, hu⟩ := strs_get hi j code hj
  have hsz : vs.toArray.size = 29 := by simpa using hlen
  rw [show ((j : Int) + 1 - 1) = (j : Int) by omega] at h
  refine call_meets PySem.F.slot_list_index ⟨_, (N _ hm).1, rfl⟩ PySem.F.entry_list_index (PySem.F.args_list_index_2 _ _)
    (MeetsSeq.list_index D vs.toArray n (.str code t) (isStrOf code) (fun y hy => eq_isStrOf code t hi y (by simpa using hy)) j (by omega) (by omega) ?_ (fun i hi' hlt => ?_)) ⟨(N _ hm).1, h⟩
  · have : vs[j]'(by omega) = .str code u := by
      have := List.getElem?_eq_some_iff.mp hu
      exact this.2
    show isStrOf code (vs.toArray[j]) = true
    rw [List.getElem_toArray, this]
    show (code == code) = true
    simp
  · show isStrOf code (vs.toArray[i]) = false
    rw [List.getElem_toArray]
    refine strs_not hi code i (by omega) (fun y hy e => ?_)
    subst e
    have := (List.getElem?_inj (i := i) (j := j) (by show i < codesL.length; omega) codesL_nodup).mp (hy.trans hj.symm)
    omega
theorem len_code (N : News h₀ L s.heap news) (hm : (D, listOf vs.toArray n) ∈ news) (hi : StrsAre vs codesL) (h : Q (.int 29 (s.toks + 1)) { s with toks := s.toks + 1 + 1 }) : wpAny (model prog w) A (call (.builtin "len") [.ref D]) Q E s := by
  have hlen : vs.length = 29 := (strs_len hi).trans rfl
  have hsz : vs.toArray.size = 29 := by simpa using hlen
  refine call_len_list ⟨_, (N _ hm).1, rfl, _, rfl⟩ (by rw [hsz]; decide) ?_
  rw [hsz]; exact h
theorem item_code {value slice : PySem.Expr} (N : News h₀ L s.heap news) (hm : (D, listOf vs.toArray n) ∈ news) (hi : StrsAre vs codesL) {k' : Int} (hc : IsCode k' code) (ek : k = k' - 1) (h : ∀ t, Q (.str code t) s)
    (hs : subscripted slice false (.ref D) (.int k u) = operate [.ref D, .int k u] (getItem (.ref D) (.int k u)) := by with_unfolding_all rfl) :
    wpAny (model prog w) A (subscriptTail value slice (.ref D) (.int k u)) Q E s := by
  have hl : s.heap.IsList D vs.toArray := ⟨_, (N _ hm).1, rfl, _, rfl⟩
  obtain ⟨j, ej, hj⟩ := hc
  obtain rfl : k = j := by omega
  obtain ⟨v, hv⟩ := strs_get hi j code hj
  have hjl : j < codesL.length := (List.getElem?_eq_some_iff.mp hj).1
  have hj29 : j < 29 := hjl
  exact tail_any hl.typeIs slot_list_getitem.lookup (wpAny_getItem_list hl (by omega) (by omega) (by simpa using hv) (h v)) hs
end
theorem split_codes : Txt.split (Str.ofString "NF SN RG OD FC OV OM UL BS DD DZ ID TM OS LS ST CN UF NR RW UE WE FO BM BN AO FF EF NM") (Str.ofString " ") = codesL := by decide +kernel
theorem strs_split {vs : List Value} {ys : List Str} (h : StrsAre vs ys) (e : ys = Txt.split (Str.ofString "NF SN RG OD FC OV OM UL BS DD DZ ID TM OS LS ST CN UF NR RW UE WE FO BM BN AO FF EF NM") (Str.ofString " ")) : StrsAre vs codesL := split_codes ▸ e ▸ h
def lamE : Expr → List Expr
  | .Compare (.Call _ [.Lambda a b c d] _ _) _ _ _ => [.Lambda a b c d]
  | .BoolOp _ es _ => es.filterMap fun e => match e with | .Compare (.Call _ [.Lambda a b c d] _ _) _ _ _ => some (.Lambda a b c d) | _ => none
  | _ => []
def lawLams : List Expr := match (PySem.Challenge.pw_rr0003_01.main.body[(64 : Nat)]?) with
  | some (.FunctionDef _ _ ss _ _ _ _ _ _ _) => ss.flatMap fun s => match s with
    | .For _ _ b _ _ => b.flatMap fun s => match s with | .If t _ _ _ => lamE t | _ => []
    | _ => []
  | _ => []
theorem lawLams_0 : (match lawLams[(0 : Nat)]? with | some (.Lambda _ _ _ _) => true | _ => false) = true := rfl
theorem lawLams_1 : (match lawLams[(1 : Nat)]? with | some (.Lambda _ _ _ _) => true | _ => false) = true := rfl
end
section
open PySem.Calls PySem.Spec PyProof.Rows.LCg


def LeaveN (g : Heap) (Rn : List (Addr × Obj) → Value → Shared → Prop) (v : Value) (s' : Shared) : Prop := ∃ L m ls, Fr g L s'.heap m ∧ News g L s'.heap ls ∧ Rn ls v s'
section
variable {prog : Program} {w : World} {A₀ A : Around} {s : Shared} {base h₀ : Heap} {outer : List Env} {L : Addr} {m : Str → Option Value} {K : Frag} {p : Program} {loose : List Str} {mean : ExcName → Option Value} {mg mb : Str → Option Value} {big ls : List (Addr × Obj)}
theorem law_def {env : Env} {R : Result → Shared → Prop} {name qual : Str} {params : Arguments} {body : List Stmt} {scope : Scope} {dV kV doc pm cdv ct oc : Value} {an od : Option Addr} {osl : Array (Option Value)} {f : Addr} {args : Args} {binds : List (Str × Value)}
    (B : Below A₀ base outer h₀) (F : Fr h₀ L s.heap m) (X₀ : K.In h₀) (T : Top p loose mean mg mb h₀) (N : News h₀ L s.heap big) (hsub : ∀ q ∈ ls, q ∈ big) (hA : A.frames = some (env :: outer)) (hf : env.frame = some L) (hke : env.scope.kind = .function)
    (ho : K.lookup f = some ⟨oc, od, .func (fnOf name qual params body scope dV kV doc pm an cdv ct), osl⟩) (hcd : codeIn K cdv qual = true) (hroom : A.depth < recursionLimit)
    (hbind : BindsTo s (fnOf name qual params body scope dV kV doc pm an cdv ct) args binds) (hloc : ∀ y ∈ binds, scope.names.lookup y.1 = some .local)
    (h : ∀ g L' h₁, (∀ b o, s.heap.get? b = some o → b ∉ ls.map (·.1) → g.get? b = some o) → Fr g L' h₁ (fun y => binds.reverse.lookup y) → News g L' h₁ ls → Below A base (env :: outer) g → K.In g → Top p loose mean mg mb g →
      wpAny (model prog w) (A.deeper (envOf qual scope L' f cdv)) (execs body (envOf qual scope L' f cdv))
        (fun fl s' => LeaveN g (fun ls' v s' => Fr h₀ L s'.heap m → (∀ q, (q ∈ ls' ∨ (q ∈ big ∧ q.1 ∉ ls.map (·.1))) → s'.heap.get? q.1 = some q.2 ∧ q.1 ≠ L ∧ h₀.get? q.1 = none) → R (.ok (.ret v)) s') (match fl with | .ret v => v | _ => .none) s')
        (fun e s' => wpAny (model prog w) (A.deeper (envOf qual scope L' f cdv)) (leaving (envOf qual scope L' f cdv) e) (fun _ s'' => R (.error e) s'') (fun e' s'' => R (.error e') s'') s')
        { s with heap := h₁, toks := s.toks + binds.length })
    (hco : scope.isCoroutine = false) (hgen : scope.isGenerator = false) (hk : scope.kind = .function)
    (hcell : ∀ x ∈ scope.names, x.2 ≠ .cell) : codeAny (model prog w) A (.call (.ref f) args) R s := by
  have Nl : News h₀ L s.heap ls := fun q hq => N q (hsub q hq)
  obtain ⟨FG, BG, st, lv⟩ := groundX (R := R) B F Nl hA hf hke
  refine codeAny_call_def (fd := fnOf name qual params body scope dV kV doc pm an cdv ct) (body := body) (binds := binds) hroom ((X₀.keeps F.keep) _ _ ho) rfl (T.nolimit.keeps F.keep) (codeRec_of (X₀.keeps F.keep) hcd) rfl hbind hcell hloc (fun h₁ hns hk₁ => ?_) hco hgen hk
  refine wpAny_mono (h _ s.heap.objs.size h₁ (fun b o e n => hideAll_get _ e n) ⟨hns, fun b o e => hk₁ b o (of_hideAll _ e), Nat.le_of_eq (hideAll_size _ _)⟩
    (fun q hq => ⟨hk₁ _ _ (Nl q hq).1, Nat.ne_of_lt (Heap.lt_size (Nl q hq).1), hideAll_none _ (List.mem_map_of_mem hq)⟩) BG (X₀.keeps st) (T.keeps st)) (fun fl s' hl => ?_) fun _ _ y => y
  obtain ⟨L', m', ls', F', N', k⟩ := hl
  obtain ⟨oL, es, ep, hL, hLd, hLk, hLf⟩ := FG.ns
  refine k ⟨⟨oL, es, ep, F'.keep L oL hL, hLd, hLk, hLf⟩, fun b o e => F'.keep b o (st b o e), F.above⟩ (fun q hq => ?_)
  rcases hq with hq | ⟨hq, hn⟩
  · refine ⟨(N' q hq).1, fun e => ?_, ?_⟩
    · have := (N' q hq).2.2; rw [e, hL] at this; cases this
    · cases z : h₀.get? q.1 with
      | none => rfl
      | some o => have := (N' q hq).2.2; rw [st _ _ z] at this; cases this
  · exact ⟨F'.keep _ _ (hideAll_get _ (N q hq).1 hn), (N q hq).2⟩
theorem updF_mem {d : Addr} {o o' : Obj} : ∀ {l : List (Addr × Obj)} {g : Obj → List (Addr × Obj)}, UpdF d o l g → ∀ q ∈ g o', q = (d, o') ∨ (q ∈ l ∧ q.1 ≠ d)
  | _, _, .head h, q, hq => (List.mem_cons.mp hq).elim .inl fun hq => .inr ⟨.tail _ hq, h q hq⟩
  | _, _, .tail h r, q, hq => (List.mem_cons.mp hq).elim (fun e => .inr ⟨e ▸ .head _, e ▸ h⟩) fun hq => (updF_mem r q hq).imp id fun z => ⟨.tail _ z.1, z.2⟩
theorem updF_has {d : Addr} {o : Obj} : ∀ {l : List (Addr × Obj)} {g : Obj → List (Addr × Obj)}, UpdF d o l g → (d, o) ∈ l
  | _, _, .head _ => .head _
  | _, _, .tail _ r => .tail _ (updF_has r)
/-- an entry of the ledger that is listed by its address is listed itself -/
theorem listed {h : Heap} (N : News h₀ L h big) (hsub : ∀ q ∈ ls, q ∈ big) {q : Addr × Obj} (hq : q ∈ big) (hm : q.1 ∈ ls.map (·.1)) : q ∈ ls := by
  obtain ⟨p, hp, e⟩ := List.mem_map.mp hm
  have h1 := (N p (hsub p hp)).1
  have h2 := (N q hq).1
  rw [e] at h1
  have : p = q := Prod.ext e (Option.some.inj (h1.symm.trans h2))
  exact this ▸ hp
end
end
section
open PySem.Calls PySem.Spec PyProof.Rows.LCg
theorem w_EX19_0 : True := by
  k_with_none
  k_with "M k_room" => ((try simp only [depth_mark, depth_under_make, depth_under_kw, depth_in1, depth_deeper]); exact Nat.lt_of_lt_of_le (m := 900) (by decide) (by decide))
  k_with "M exec Raise some none" => (k_here; (with_reducible show wpAny _ _ (exec (Stmt.Raise (some (Expr.Call (Expr.Name ("BasicError" : Str) _) _ [] _)) none _) _) _ _ _); k_dflt (refine' raise_K ?zzF ?zzX ?zzh ?_; (case zzF => k_asm); (case zzX => k_asm); (case zzh => first | rfl | assumption); k_whole))
  k_with "M call ref" => (k_here; k_dflt (refine wpAny_call ?_; refine' code_defC ?zzk1 ?zzk2 ?zzk3 ?zzk4 ?zzk5 ?zzkA ?zzkF ?zzkK ?zzk6 ?zzk7 ?zzk8 ?zzk9 ?zzkB ?zzkD ?_ ?zzc2 ?zzc3 ?zzc4; (case zzkA => exact Around.frames_deeper (Below.stack (by assumption))); (case zzkF => exact rfl); (case zzkK => exact rfl); (case zzk1 => k_asm); (case zzk2 => k_asm); (case zzk3 => k_asm); (case zzk4 => k_asm); (case zzk5 => k_asm); (case zzk6 => k_is); (case zzk7 => k_is); (case zzk8 => k_room); (case zzk9 => first | exact BindsTo.of_eq rfl | exact binds_K (by k_in) rfl (by k_is) rfl rfl rfl | fail "k_enter: no rule for these arguments"); (case zzkB => exact rfl); (case zzkD => decide +kernel); (case zzc2 => exact rfl); (case zzc3 => exact rfl); (case zzc4 => exact rfl); k_whole; intro g'w L'w h'w tk'w cells'w FG'w F'w N'w Y'w B'w X'w T'w l1'w; (try k_lt l1'w); k_cells Y'w; (try simp only [List.cons_append, List.nil_append] at N'w); (try dsimp only); (try k_lift B'w); (try k_fold)))
  k_with "M call ref" => (k_here; k_dflt (refine wpAny_call ?_; refine' code_def ?zzk1 ?zzk2 ?zzk3 ?zzk4 ?zzk5 ?zzkA ?zzkF ?zzkK ?zzk6 ?zzk7 ?zzk8 ?zzk9 ?zzkB ?_ ?zzc2 ?zzc3 ?zzc4 ?zzc5; (case zzkA => exact Around.frames_deeper (Below.stack (by assumption))); (case zzkF => exact rfl); (case zzkK => exact rfl); (case zzk1 => k_asm); (case zzk2 => k_asm); (case zzk3 => k_asm); (case zzk4 => k_asm); (case zzk5 => k_asm); (case zzk6 => k_is); (case zzk7 => k_is); (case zzk8 => k_room); (case zzk9 => first | exact BindsTo.of_eq rfl | exact binds_K (by k_in) rfl (by k_is) rfl rfl rfl | fail "k_enter: no rule for these arguments"); (case zzc5 => decide); (case zzkB => exact locs rfl); (case zzc2 => exact rfl); (case zzc3 => exact rfl); (case zzc4 => exact rfl); k_whole; intro g'w L'w h'w FG'w F'w N'w B'w X'w T'w; (try dsimp only); (try k_lift B'w); (try k_fold)))
  k_with "M call ref" => (k_here; (with_reducible show wpAny _ _ (call (Value.ref 34) _) _ _ _); k_dflt (refine' bx_make ?zzF ?zzX ?zzT ?zzr ?zzl ?_; (case zzF => k_asm); (case zzX => k_asm); (case zzT => k_asm); (case zzr => k_room); (case zzl => first | exact Nat.zero_le _ | exact Nat.le_refl _); k_whole); intro h'w tk'w e'w dx'w mb'w)
  k_with "M RaisesB" => (k_dflt (refine' raisesB_K ?zzF ?zzM ?_; (case zzF => k_asm); (case zzM => assumption); k_whole))
  k_with "M leaving ref" => (k_here; first
  | (refine' leave_newB ?zzk1 ?zzk0 ?zzk2 ?zzk3 ?zzkf ?zzkk ?_; (case zzk0 => assumption); (case zzk1 => assumption); (case zzk2 => assumption); (case zzk3 => k_asm); (case zzkf => rfl); (case zzkk => rfl); k_whole; intro h'w R'w U'w; (try dsimp only at R'w U'w ⊢))
  | (refine' leave_onB ?zzk1 ?zzk2 ?zzk3 ?zzk4 ?zzkf ?_; (case zzk3 => assumption); (case zzk1 => assumption); (case zzk4 => assumption); (case zzk2 => assumption); (case zzkf => rfl); k_whole; intro h'w R'w U'w; (try dsimp only at R'w U'w ⊢)))
  k_with "M getAttr ref" => (k_here; k_dflt (refine' get_own ?zzk1 ?zzk2 ?zzk3 ?zzk4 ?zzk5 ?zzk6 ?zzk7 ?zzk8 ?zzk9 ?_; (case zzk1 => k_asm); (case zzk2 => k_asm); (case zzk3 => k_inst); (case zzk4 => k_is); (case zzk5 => k_is); (case zzk6 => k_is); (case zzk7 => k_is); (case zzk8 => assumption); (case zzk9 => k_handed); k_whole))
  k_with "M eval Name" => (k_here; kc_free; k_dflt (refine' nameX_F ?zzN ?zzc ?zzm ?zzd ?_ ?zza ?zzb; (case zza => rfl); (case zzb => rfl); (case zzN => k_asm); (case zzc => rfl); (case zzm => k_mem); (case zzd => assumption); k_whole))
  k_with "M compareOp In int ref" => (k_here; k_dflt (refine kda_in (knd := PySem.intKind _ _) (by k_asm) (by k_mem) (by k_asm) (by k_asm) (intKind_is _ _ _ _) false (not_three (by omega) (by omega) (by omega)) ?_))
  k_with "M compareOp NotIn int ref" => (k_here; k_dflt (refine kdg_notin (knd := PySem.intKind _ _) (by k_asm) (by k_mem) (by k_asm) (by k_asm) (intKind_is _ _ _ _) false (not_three (by omega) (by omega) (by omega)) ?_))
  k_with "M exec For Name Attribute cons nil" => (k_here; (rename Fr _ _ _ _ => lF'w); (with_unfolding_all refine' For_turns lF'w ?_; k_whole))
  k_with "M pyIter ref" => (k_here; (with_reducible show wpAny _ _ (pyIter (Value.ref _)) (fun it s₂ => TurnsAt _ _ _ _ _ _ _ _ _ it s₂) _ _); (rename Fr _ _ _ _ => lF'w); (rename News _ _ _ _ => lN'w); (with_unfolding_all first
  | refine kta_keys (knd := PySem.intKind _ _) (enc := PyData.int) (xs := [Itm.tok (fun t => Value.int 1 t), Itm.tok (fun t => Value.int 2 t), Itm.tok (fun t => Value.int 3 t)]) (by rfl) lF'w lN'w (by k_mem) (by k_asm) (by k_asm) (fun _ _ h => Value.isInt_shape h) (by rfl) ?_
  | refine kta_keys (knd := PySem.intKind _ _) (enc := PyData.int) (xs := [Itm.tok (fun t => Value.int 1 t), Itm.tok (fun t => Value.int 2 t)]) (by rfl) lF'w lN'w (by k_mem) (by k_asm) (by k_asm) (fun _ _ h => Value.isInt_shape h) (by rfl) ?_
  | refine kta_keys (knd := PySem.intKind _ _) (enc := PyData.int) (xs := [Itm.tok (fun t => Value.int 1 t)]) (by rfl) lF'w lN'w (by k_mem) (by k_asm) (by k_asm) (fun _ _ h => Value.isInt_shape h) (by rfl) ?_
  | refine kta_keys (knd := PySem.intKind _ _) (enc := PyData.int) (xs := []) (by rfl) lF'w lN'w (by k_mem) (by k_asm) (by k_asm) (fun _ _ h => Value.isInt_shape h) (by rfl) ?_); clear lF'w lN'w; intro i'w l1'w; (try k_lt l1'w))
  k_with "M eval ListComp" => (k_here; lct_look; (with_reducible show wpAny _ _ (eval (Expr.ListComp _ [⟨Expr.Name _ _, Expr.Name _ _, _, _⟩] _ _) _) _ _ _); k_dflt (refine comp_str (F₀ := by k_asm) (by with_unfolding_all rfl) (by decide) (by rfl) (by decide) (by rfl) ?_))
  k_with "M eval ListComp" => (k_here; lct_look; (with_reducible show wpAny _ _ (eval (Expr.ListComp _ [⟨Expr.Name _ _, Expr.Attribute _ _ _, _, _⟩] _ _) _) _ _ _); k_dflt (refine comp_dict (F₀ := by k_asm) (by with_unfolding_all rfl) (by decide) (by rfl) (by decide) (by rfl) ?_))
  k_with "M StrSrcT" => (k_here; (with_unfolding_all first
  | refine ⟨_, _, [65], 1, _, rfl, (by rfl), (by k_asm), (by k_asm), (by decide), (by decide), (by rfl), (by size_fits), ?_⟩
  | refine ⟨_, _, [66], 1, _, rfl, (by rfl), (by k_asm), (by k_asm), (by decide), (by decide), (by rfl), (by size_fits), ?_⟩
  | refine ⟨_, _, [67], 1, _, rfl, (by rfl), (by k_asm), (by k_asm), (by decide), (by decide), (by rfl), (by size_fits), ?_⟩
  | refine ⟨_, _, [68], 1, _, rfl, (by rfl), (by k_asm), (by k_asm), (by decide), (by decide), (by rfl), (by size_fits), ?_⟩
  | refine ⟨_, _, [78, 79, 78, 69], 4, _, rfl, (by rfl), (by k_asm), (by k_asm), (by decide), (by decide), (by rfl), (by size_fits), ?_⟩); intro g'w)
  k_with "M DictSrcT" => (k_here; (with_unfolding_all refine ⟨_, _, _, [1, 2, 3], 3, _, rfl, (by rfl), (by k_asm), (by k_asm), (by k_mem), (by k_asm), (by k_asm), (by rfl), (by rfl), (by size_fits), ?_⟩); intro g'w)
  k_with "M CompRestT" => ((with_unfolding_all refine LCt.CompRestT.succ ?_); intro v'w I'w oI'w C'w oC'w D'w m'w h'w tk'w E'w hv'w hC'w hx'w F'w N'w off'w ne'w; (obtain ⟨t9'w, hv9'w⟩ := hv'w); subst hv9'w; (try simp only [List.getD_cons_zero, List.getD_cons_succ] at hx'w))
  k_with "M lcg_off" => assumption
  k_with "M lcg_src" => first | exact True.intro | (show _ ∈ _; k_mem)
  k_with "M eval ListComp" => (k_here; lct_look; (with_reducible show wpAny _ _ (eval (Expr.ListComp _ [⟨Expr.Tuple _ _ _, Expr.Name _ _, [_], _⟩] _ _) _) _ _ _); k_dflt (refine comp_pairs_none (F₀ := by k_asm) (by with_unfolding_all rfl) (by decide) (by rfl) (by decide) (by rfl) (by rfl) (by decide) ?_))
  k_with "M PairsSrc" => (k_here; (with_unfolding_all refine ⟨_, _, _, _, rfl, (by rfl), (by k_asm), (by k_asm), (by k_mem), (by size_fits), ?_, ?_⟩); (with_unfolding_all (refine List.forall_mem_cons.mpr ⟨⟨_, _, _, _, _, rfl, (by k_mem), (by rfl), (by rfl), ?_⟩, List.forall_mem_cons.mpr ⟨⟨_, _, _, _, _, rfl, (by k_mem), (by rfl), (by rfl), ?_⟩, List.forall_mem_nil _⟩⟩)); (intro C'w oC'w m'w s'w E'w hC'w hx'w hy'w F'w N'w); rotate_left; (intro C'w oC'w m'w s'w E'w hC'w hx'w hy'w F'w N'w); rotate_left; (intro D'w h'w tk'w F'w N'w); rotate_left)
  k_with "M And" => (k_here; (exact ⟨by first | rfl | exact decide_eq_false (by omega), _, rfl⟩))
  k_with "M exec For Tuple Call cons nil" => (k_here; (rename Fr _ _ _ _ => lF'w); (with_unfolding_all refine' For_turns lF'w ?_; k_whole))
  k_with "M kts_caught" => first | exact PutAt.same (by assumption) | assumption | (refine Eq.trans (PutAt.other (by assumption) _ (by decide)) ?_; k_extra "M kts_caught")
  k_with "M getAttr ref" => (k_here; k_dflt (refine' get_own ?zzk1 ?zzk2 ?zzk3 ?zzk4 ?zzk5 ?zzk6 ?zzk7 ?zzk8 ?zzk9 ?_; (case zzk1 => k_asm); (case zzk2 => k_asm); (case zzk3 => k_inst); (case zzk4 => k_is); (case zzk5 => k_is); (case zzk6 => k_is); (case zzk7 => k_is); (case zzk8 => kts_caught); (case zzk9 => k_handed); k_whole))
  k_with "M setAttr ref" => (k_here; k_dflt (refine' set_abs ?zzk1 ?zzk2 ?zzk3 ?zzk4 ?zzk5 ?zzk6 ?zzk7 ?zzk8 ?zzk9 ?zzk10 ?zzk12 ?zzk13 ?_; (case zzk1 => k_asm); (case zzk2 => k_asm); (case zzk3 => k_asm); (case zzk4 => k_inst); (case zzk5 => exact rfl); (case zzk6 => k_is); (case zzk7 => k_is); (case zzk8 => k_is); (case zzk9 => k_is); (case zzk10 => kts_caught); (case zzk12 => k_updF); (case zzk13 => assumption); k_whole); intro h'w es'w n'w F'w N'w P'w z'w; (try dsimp only at N'w))
  k_with "M CompRestP" => (with_unfolding_all (refine LCp.CompRestP.succ ?_; intro v'w hv'w; lcg_open hv'w; refine ⟨_, _, _, _, _, rfl, by k_mem, rfl, rfl, ?_⟩; intro I'w oI'w C'w oC'w D'w m'w h'w tk'w E'w hC'w hx'w hy'w F'w N'w off'w ne'w))
  k_with "M lcg_src" => first | exact True.intro | (show _ ∈ _; k_mem) | exact Or.inl (Or.inl (by assumption)) | exact Or.inl (by assumption) | exact Or.inr ⟨_, by k_mem, rfl, _, rfl⟩
  k_with "M compareOp In str ref" => (k_here; k_dflt (refine' in_code ?zzN ?zzm ?zzi ?zzc ?_; (case zzN => k_asm); (case zzm => k_mem); (case zzc => assumption); (case zzi => exact strs_split (by assumption) (by assumption))))
  k_with "M call builtin:list.index" => (k_here; k_dflt (refine' index_code ?zzN ?zzm ?zzi ?zzc ?_; (case zzN => k_asm); (case zzm => k_mem); (case zzc => assumption); (case zzi => exact strs_split (by assumption) (by assumption))))
  k_with "M subscriptTail" => (k_here; (with_reducible show wpAny _ _ (subscriptTail _ _ (Value.ref _) (Value.int _ _)) _ _ _); k_dflt (refine' item_code ?zzN ?zzm ?zzi ?zzc ?zze ?_; (case zzN => k_asm); (case zzm => k_mem); (case zzc => assumption); (case zze => first | rfl | omega); (case zzi => exact strs_split (by assumption) (by assumption))); intro t'w)
  k_with "M call builtin:len" => (k_here; k_dflt (refine' len_code ?zzN ?zzm ?zzi ?_; (case zzN => k_asm); (case zzm => k_mem); (case zzi => exact strs_split (by assumption) (by assumption))))
  trivial

theorem error_number_K {w : World} {base h₀ : Heap} {outer : List Env} {env : Env} {L W dW : Addr} {esW : List DictEntry} {nW : Nat} {big : List (Addr × Obj)} {m mg mb : Str → Option Value} {p : Program} {loose : List Str} {mean : ExcName → Option Value} {s : Shared} {t : Tok} {Q E : Value → Shared → Prop} {k : Int} {code : Str}
  (B : Below callerA base outer h₀) (F : Fr h₀ L s.heap m) (X : (hd.heap_1_39 w.params).In h₀) (T : Top p loose mean mg mb h₀) (hf : env.frame = some L) (hke : env.scope.kind = .function)
  (N : News h₀ L s.heap big) (mW : (W, instObj 386 dW) ∈ big) (mdW : (dW, dictOf esW nW) ∈ big) (gE : getL "error_code" esW = some (some (.str code t)))
  (hck : IsCode k code)
  (hQ : ∀ h' tk t', Fr h₀ L h' m → News h₀ L h' big → Q (.int k t') { s with heap := h', toks := tk }) : wpAny (model RW.row.prog w) (callerA.deeper env) (call (.ref 220) [.ref W]) Q E s := by
  have hlo := hck.lo
  have hhi := hck.hi
  have BFN := And.intro F N
  revert X; k_fill; intro X
  refine wpAny_call ?_
  refine' law_def (ls := [(W, instObj 386 dW), (dW, dictOf esW nW)]) B F X T N ?hsub (Around.frames_deeper B.stack) hf hke ?k6 ?k7 ?k8 ?k9 ?kB ?_ ?c2 ?c3 ?c4 ?c5
  case hsub => intro q hq; simp only [List.mem_cons, List.not_mem_nil, or_false] at hq; rcases hq with rfl | rfl <;> assumption
  case k6 => k_is
  case k7 => k_is
  case k8 => k_room
  case k9 => exact BindsTo.of_eq rfl
  case kB => exact locs rfl
  case c2 => exact rfl
  case c3 => exact rfl
  case c4 => exact rfl
  case c5 => decide
  clear F N
  intro g' L' h' hg F' N' B' X' T'
  k_fold
  k_steps
  all_goals (simp only [Int.sub_add_cancel]; refine ⟨_, _, _, by assumption, by assumption, fun Fh Hq => hQ _ _ _ Fh (fun q hq => Hq q ?_)⟩)
  all_goals (by_cases hm : q.1 ∈ [(W, instObj 386 dW), (dW, dictOf esW nW)].map (·.1))
  · have hl := listed BFN.2 (by intro q hq; simp only [List.mem_cons, List.not_mem_nil, or_false] at hq; rcases hq with rfl | rfl <;> assumption) hq hm
    exact .inl (by repeat (first | exact hl | refine List.mem_cons_of_mem _ ?_))
  · exact .inr ⟨hq, hm⟩

def KV (kvs : List (Int × Value)) : Prop := ∀ q ∈ kvs, ∃ c t, q.2 = .str c t ∧ IsCode q.1 c
theorem IsCode.uniq {k : Int} {a b : Str} (x : IsCode k a) (y : IsCode k b) : a = b := by
  obtain ⟨i, hi, ha⟩ := x
  obtain ⟨j, hj, hb⟩ := y
  obtain rfl : i = j := by omega
  exact Option.some.inj (ha.symm.trans hb)
theorem valueAt_mem {kvs : List (Int × Value)} {k : Int} {v : Value} (h : valueAt kvs k = some v) : (k, v) ∈ kvs := by
  unfold valueAt at h
  cases hf : kvs.find? (fun kv => decide (kv.1 = k)) with
  | none => rw [hf] at h; cases h
  | some q =>
    rw [hf] at h
    have h1 := List.mem_of_find?_eq_some hf
    have h2 : decide (q.1 = k) = true := List.find?_some (p := fun kv : Int × Value => decide (kv.1 = k)) hf
    have h3 : q.1 = k := of_decide_eq_true h2
    have h4 : q.2 = v := Option.some.inj h
    rw [← h3, ← h4]
    exact h1
section
variable {prog : Program} {w : World} {A : Around} {E : Value → Shared → Prop} {s : Shared} {h₀ : Heap} {L D : Addr} {m : Str → Option Value} {news : List (Addr × Obj)} {kvs : List (Int × Value)} {oK : Obj} {k : Int} {code : Str} {t u : Tok} {Q : Value → Shared → Prop}

theorem known_get (N : News h₀ L s.heap news) (hp : (D, oK) ∈ news) (hd : oK.IsDictOf (PySem.intKind prog w) kvs) (lo : (D == sysModules) = false) (hkv : KV kvs) (hc : IsCode k code) (h : ∀ t', Q (.str code t') { s with toks := s.toks + 1 }) :
    wpAny (model prog w) A (call (.builtin "dict.get") [.ref D, .int k t, .str code u]) Q E s := by
  refine kdg_get2 (knd := PySem.intKind prog w) N hp hd lo (intKind_is _ _ _ _) _ rfl ?_
  cases hv : valueAt kvs k with
  | none => exact h u
  | some v =>
    obtain ⟨c, t', e, hc'⟩ := hkv _ (valueAt_mem hv)
    have e' : v = .str c t' := e
    subst e'
    obtain rfl := hc'.uniq hc
    exact h t'
end
def addKey (ks : List Int) (k : Int) : List Int := if ks.any (fun x => decide (x = k)) then ks else ks ++ [k]
theorem stored_keys {kvs : List (Int × Value)} {k : Int} {v : Value} : (stored kvs k v).map (·.1) = addKey (kvs.map (·.1)) k := by
  unfold stored addKey
  have e : (kvs.map (·.1)).any (fun x => decide (x = k)) = kvs.any (fun kv => decide (kv.1 = k)) := by rw [List.any_map]; rfl
  rw [e]
  split
  · rw [List.map_map]
    refine List.map_congr_left fun q _ => ?_
    show (if q.1 = k then (q.1, v) else q).1 = q.1
    split <;> rfl
  · simp
theorem stored_KV {kvs : List (Int × Value)} {k : Int} {code : Str} {t : Tok} (h : KV kvs) (hc : IsCode k code) : KV (stored kvs k (.str code t)) := by
  intro q hq
  unfold stored at hq
  split at hq
  · obtain ⟨r, hr, rfl⟩ := List.mem_map.mp hq
    show ∃ c t_1, (if r.1 = k then (r.1, Value.str code t) else r).2 = _ ∧ IsCode (if r.1 = k then (r.1, Value.str code t) else r).1 _
    split
    · rename_i e
      subst e
      exact ⟨code, t, rfl, hc⟩
    · exact h r hr
  · rcases List.mem_append.mp hq with hq | hq
    · exact h q hq
    · rw [List.mem_singleton.mp hq]
      exact ⟨code, t, rfl, hc⟩
def lawFor : Option (Expr × Expr × List Stmt × Pos) := match (PySem.Challenge.pw_rr0003_01.main.body[(64 : Nat)]?) with
  | some (.FunctionDef _ _ ss _ _ _ _ _ _ _) => ss.findSome? fun s => match s with
    | .For t i b [] p => some (t, i, b, p)
    | _ => none
  | _ => none
def lawScope : Option Scope := match (PySem.Challenge.pw_rr0003_01.main.body[(64 : Nat)]?) with
  | some (.FunctionDef _ _ _ _ _ _ sc _ _ _) => some sc
  | _ => none
end
section
open PySem.Calls PySem.Spec PyProof.Rows.LCg
theorem w_EX20_0 : True := by
  k_with_none
  k_with "M k_room" => ((try simp only [depth_mark, depth_under_make, depth_under_kw, depth_in1, depth_deeper]); exact Nat.lt_of_lt_of_le (m := 900) (by decide) (by decide))
  k_with "M exec Raise some none" => (k_here; (with_reducible show wpAny _ _ (exec (Stmt.Raise (some (Expr.Call (Expr.Name ("BasicError" : Str) _) _ [] _)) none _) _) _ _ _); k_dflt (refine' raise_K ?zzF ?zzX ?zzh ?_; (case zzF => k_asm); (case zzX => k_asm); (case zzh => first | rfl | assumption); k_whole))
  k_with "M call ref" => (k_here; k_dflt (refine wpAny_call ?_; refine' code_defC ?zzk1 ?zzk2 ?zzk3 ?zzk4 ?zzk5 ?zzkA ?zzkF ?zzkK ?zzk6 ?zzk7 ?zzk8 ?zzk9 ?zzkB ?zzkD ?_ ?zzc2 ?zzc3 ?zzc4; (case zzkA => exact Around.frames_deeper (Below.stack (by assumption))); (case zzkF => exact rfl); (case zzkK => exact rfl); (case zzk1 => k_asm); (case zzk2 => k_asm); (case zzk3 => k_asm); (case zzk4 => k_asm); (case zzk5 => k_asm); (case zzk6 => k_is); (case zzk7 => k_is); (case zzk8 => k_room); (case zzk9 => first | exact BindsTo.of_eq rfl | exact binds_K (by k_in) rfl (by k_is) rfl rfl rfl | fail "k_enter: no rule for these arguments"); (case zzkB => exact rfl); (case zzkD => decide +kernel); (case zzc2 => exact rfl); (case zzc3 => exact rfl); (case zzc4 => exact rfl); k_whole; intro g'w L'w h'w tk'w cells'w FG'w F'w N'w Y'w B'w X'w T'w l1'w; (try k_lt l1'w); k_cells Y'w; (try simp only [List.cons_append, List.nil_append] at N'w); (try dsimp only); (try k_lift B'w); (try k_fold)))
  k_with "M call ref" => (k_here; k_dflt (refine wpAny_call ?_; refine' code_def ?zzk1 ?zzk2 ?zzk3 ?zzk4 ?zzk5 ?zzkA ?zzkF ?zzkK ?zzk6 ?zzk7 ?zzk8 ?zzk9 ?zzkB ?_ ?zzc2 ?zzc3 ?zzc4 ?zzc5; (case zzkA => exact Around.frames_deeper (Below.stack (by assumption))); (case zzkF => exact rfl); (case zzkK => exact rfl); (case zzk1 => k_asm); (case zzk2 => k_asm); (case zzk3 => k_asm); (case zzk4 => k_asm); (case zzk5 => k_asm); (case zzk6 => k_is); (case zzk7 => k_is); (case zzk8 => k_room); (case zzk9 => first | exact BindsTo.of_eq rfl | exact binds_K (by k_in) rfl (by k_is) rfl rfl rfl | fail "k_enter: no rule for these arguments"); (case zzc5 => decide); (case zzkB => exact locs rfl); (case zzc2 => exact rfl); (case zzc3 => exact rfl); (case zzc4 => exact rfl); k_whole; intro g'w L'w h'w FG'w F'w N'w B'w X'w T'w; (try dsimp only); (try k_lift B'w); (try k_fold)))
  k_with "M call ref" => (k_here; (with_reducible show wpAny _ _ (call (Value.ref 34) _) _ _ _); k_dflt (refine' bx_make ?zzF ?zzX ?zzT ?zzr ?zzl ?_; (case zzF => k_asm); (case zzX => k_asm); (case zzT => k_asm); (case zzr => k_room); (case zzl => first | exact Nat.zero_le _ | exact Nat.le_refl _); k_whole); intro h'w tk'w e'w dx'w mb'w)
  k_with "M RaisesB" => (k_dflt (refine' raisesB_K ?zzF ?zzM ?_; (case zzF => k_asm); (case zzM => assumption); k_whole))
  k_with "M leaving ref" => (k_here; first
  | (refine' leave_newB ?zzk1 ?zzk0 ?zzk2 ?zzk3 ?zzkf ?zzkk ?_; (case zzk0 => assumption); (case zzk1 => assumption); (case zzk2 => assumption); (case zzk3 => k_asm); (case zzkf => rfl); (case zzkk => rfl); k_whole; intro h'w R'w U'w; (try dsimp only at R'w U'w ⊢))
  | (refine' leave_onB ?zzk1 ?zzk2 ?zzk3 ?zzk4 ?zzkf ?_; (case zzk3 => assumption); (case zzk1 => assumption); (case zzk4 => assumption); (case zzk2 => assumption); (case zzkf => rfl); k_whole; intro h'w R'w U'w; (try dsimp only at R'w U'w ⊢)))
  k_with "M getAttr ref" => (k_here; k_dflt (refine' get_own ?zzk1 ?zzk2 ?zzk3 ?zzk4 ?zzk5 ?zzk6 ?zzk7 ?zzk8 ?zzk9 ?_; (case zzk1 => k_asm); (case zzk2 => k_asm); (case zzk3 => k_inst); (case zzk4 => k_is); (case zzk5 => k_is); (case zzk6 => k_is); (case zzk7 => k_is); (case zzk8 => assumption); (case zzk9 => k_handed); k_whole))
  k_with "M eval Name" => (k_here; kc_free; k_dflt (refine' nameX_F ?zzN ?zzc ?zzm ?zzd ?_ ?zza ?zzb; (case zza => rfl); (case zzb => rfl); (case zzN => k_asm); (case zzc => rfl); (case zzm => k_mem); (case zzd => assumption); k_whole))
  k_with "M compareOp In int ref" => (k_here; k_dflt (refine kda_in (knd := PySem.intKind _ _) (by k_asm) (by k_mem) (by k_asm) (by k_asm) (intKind_is _ _ _ _) false (not_three (by omega) (by omega) (by omega)) ?_))
  k_with "M compareOp NotIn int ref" => (k_here; k_dflt (refine kdg_notin (knd := PySem.intKind _ _) (by k_asm) (by k_mem) (by k_asm) (by k_asm) (intKind_is _ _ _ _) false (not_three (by omega) (by omega) (by omega)) ?_))
  k_with "M exec For Name Attribute cons nil" => (k_here; (rename Fr _ _ _ _ => lF'w); (with_unfolding_all refine' For_turns lF'w ?_; k_whole))
  k_with "M pyIter ref" => (k_here; (with_reducible show wpAny _ _ (pyIter (Value.ref _)) (fun it s₂ => TurnsAt _ _ _ _ _ _ _ _ _ it s₂) _ _); (rename Fr _ _ _ _ => lF'w); (rename News _ _ _ _ => lN'w); (with_unfolding_all first
  | refine kta_keys (knd := PySem.intKind _ _) (enc := PyData.int) (xs := [Itm.tok (fun t => Value.int 1 t), Itm.tok (fun t => Value.int 2 t), Itm.tok (fun t => Value.int 3 t)]) (by rfl) lF'w lN'w (by k_mem) (by k_asm) (by k_asm) (fun _ _ h => Value.isInt_shape h) (by rfl) ?_
  | refine kta_keys (knd := PySem.intKind _ _) (enc := PyData.int) (xs := [Itm.tok (fun t => Value.int 1 t), Itm.tok (fun t => Value.int 2 t)]) (by rfl) lF'w lN'w (by k_mem) (by k_asm) (by k_asm) (fun _ _ h => Value.isInt_shape h) (by rfl) ?_
  | refine kta_keys (knd := PySem.intKind _ _) (enc := PyData.int) (xs := [Itm.tok (fun t => Value.int 1 t)]) (by rfl) lF'w lN'w (by k_mem) (by k_asm) (by k_asm) (fun _ _ h => Value.isInt_shape h) (by rfl) ?_
  | refine kta_keys (knd := PySem.intKind _ _) (enc := PyData.int) (xs := []) (by rfl) lF'w lN'w (by k_mem) (by k_asm) (by k_asm) (fun _ _ h => Value.isInt_shape h) (by rfl) ?_); clear lF'w lN'w; intro i'w l1'w; (try k_lt l1'w))
  k_with "M eval ListComp" => (k_here; lct_look; (with_reducible show wpAny _ _ (eval (Expr.ListComp _ [⟨Expr.Name _ _, Expr.Name _ _, _, _⟩] _ _) _) _ _ _); k_dflt (refine comp_str (F₀ := by k_asm) (by with_unfolding_all rfl) (by decide) (by rfl) (by decide) (by rfl) ?_))
  k_with "M eval ListComp" => (k_here; lct_look; (with_reducible show wpAny _ _ (eval (Expr.ListComp _ [⟨Expr.Name _ _, Expr.Attribute _ _ _, _, _⟩] _ _) _) _ _ _); k_dflt (refine comp_dict (F₀ := by k_asm) (by with_unfolding_all rfl) (by decide) (by rfl) (by decide) (by rfl) ?_))
  k_with "M StrSrcT" => (k_here; (with_unfolding_all first
  | refine ⟨_, _, [65], 1, _, rfl, (by rfl), (by k_asm), (by k_asm), (by decide), (by decide), (by rfl), (by size_fits), ?_⟩
  | refine ⟨_, _, [66], 1, _, rfl, (by rfl), (by k_asm), (by k_asm), (by decide), (by decide), (by rfl), (by size_fits), ?_⟩
  | refine ⟨_, _, [67], 1, _, rfl, (by rfl), (by k_asm), (by k_asm), (by decide), (by decide), (by rfl), (by size_fits), ?_⟩
  | refine ⟨_, _, [68], 1, _, rfl, (by rfl), (by k_asm), (by k_asm), (by decide), (by decide), (by rfl), (by size_fits), ?_⟩
  | refine ⟨_, _, [78, 79, 78, 69], 4, _, rfl, (by rfl), (by k_asm), (by k_asm), (by decide), (by decide), (by rfl), (by size_fits), ?_⟩); intro g'w)
  k_with "M DictSrcT" => (k_here; (with_unfolding_all refine ⟨_, _, _, [1, 2, 3], 3, _, rfl, (by rfl), (by k_asm), (by k_asm), (by k_mem), (by k_asm), (by k_asm), (by rfl), (by rfl), (by size_fits), ?_⟩); intro g'w)
  k_with "M CompRestT" => ((with_unfolding_all refine LCt.CompRestT.succ ?_); intro v'w I'w oI'w C'w oC'w D'w m'w h'w tk'w E'w hv'w hC'w hx'w F'w N'w off'w ne'w; (obtain ⟨t9'w, hv9'w⟩ := hv'w); subst hv9'w; (try simp only [List.getD_cons_zero, List.getD_cons_succ] at hx'w))
  k_with "M lcg_off" => assumption
  k_with "M lcg_src" => first | exact True.intro | (show _ ∈ _; k_mem)
  k_with "M eval ListComp" => (k_here; lct_look; (with_reducible show wpAny _ _ (eval (Expr.ListComp _ [⟨Expr.Tuple _ _ _, Expr.Name _ _, [_], _⟩] _ _) _) _ _ _); k_dflt (refine comp_pairs_none (F₀ := by k_asm) (by with_unfolding_all rfl) (by decide) (by rfl) (by decide) (by rfl) (by rfl) (by decide) ?_))
  k_with "M PairsSrc" => (k_here; (with_unfolding_all refine ⟨_, _, _, _, rfl, (by rfl), (by k_asm), (by k_asm), (by k_mem), (by size_fits), ?_, ?_⟩); (with_unfolding_all (refine List.forall_mem_cons.mpr ⟨⟨_, _, _, _, _, rfl, (by k_mem), (by rfl), (by rfl), ?_⟩, List.forall_mem_cons.mpr ⟨⟨_, _, _, _, _, rfl, (by k_mem), (by rfl), (by rfl), ?_⟩, List.forall_mem_nil _⟩⟩)); (intro C'w oC'w m'w s'w E'w hC'w hx'w hy'w F'w N'w); rotate_left; (intro C'w oC'w m'w s'w E'w hC'w hx'w hy'w F'w N'w); rotate_left; (intro D'w h'w tk'w F'w N'w); rotate_left)
  k_with "M And" => (k_here; (exact ⟨by first | rfl | exact decide_eq_false (by omega), _, rfl⟩))
  k_with "M exec For Tuple Call cons nil" => (k_here; (rename Fr _ _ _ _ => lF'w); (with_unfolding_all refine' For_turns lF'w ?_; k_whole))
  k_with "M kts_caught" => first | exact PutAt.same (by assumption) | assumption | (refine Eq.trans (PutAt.other (by assumption) _ (by decide)) ?_; k_extra "M kts_caught")
  k_with "M getAttr ref" => (k_here; k_dflt (refine' get_own ?zzk1 ?zzk2 ?zzk3 ?zzk4 ?zzk5 ?zzk6 ?zzk7 ?zzk8 ?zzk9 ?_; (case zzk1 => k_asm); (case zzk2 => k_asm); (case zzk3 => k_inst); (case zzk4 => k_is); (case zzk5 => k_is); (case zzk6 => k_is); (case zzk7 => k_is); (case zzk8 => kts_caught); (case zzk9 => k_handed); k_whole))
  k_with "M setAttr ref" => (k_here; k_dflt (refine' set_abs ?zzk1 ?zzk2 ?zzk3 ?zzk4 ?zzk5 ?zzk6 ?zzk7 ?zzk8 ?zzk9 ?zzk10 ?zzk12 ?zzk13 ?_; (case zzk1 => k_asm); (case zzk2 => k_asm); (case zzk3 => k_asm); (case zzk4 => k_inst); (case zzk5 => exact rfl); (case zzk6 => k_is); (case zzk7 => k_is); (case zzk8 => k_is); (case zzk9 => k_is); (case zzk10 => kts_caught); (case zzk12 => k_updF); (case zzk13 => assumption); k_whole); intro h'w es'w n'w F'w N'w P'w z'w; (try dsimp only at N'w))
  k_with "M CompRestP" => (with_unfolding_all (refine LCp.CompRestP.succ ?_; intro v'w hv'w; lcg_open hv'w; refine ⟨_, _, _, _, _, rfl, by k_mem, rfl, rfl, ?_⟩; intro I'w oI'w C'w oC'w D'w m'w h'w tk'w E'w hC'w hx'w hy'w F'w N'w off'w ne'w))
  k_with "M lcg_src" => first | exact True.intro | (show _ ∈ _; k_mem) | exact Or.inl (Or.inl (by assumption)) | exact Or.inl (by assumption) | exact Or.inr ⟨_, by k_mem, rfl, _, rfl⟩
  k_with "M compareOp In str ref" => (k_here; k_dflt (refine' in_code ?zzN ?zzm ?zzi ?zzc ?_; (case zzN => k_asm); (case zzm => k_mem); (case zzc => assumption); (case zzi => exact strs_split (by assumption) (by assumption))))
  k_with "M call builtin:list.index" => (k_here; k_dflt (refine' index_code ?zzN ?zzm ?zzi ?zzc ?_; (case zzN => k_asm); (case zzm => k_mem); (case zzc => assumption); (case zzi => exact strs_split (by assumption) (by assumption))))
  k_with "M subscriptTail" => (k_here; (with_reducible show wpAny _ _ (subscriptTail _ _ (Value.ref _) (Value.int _ _)) _ _ _); k_dflt (refine' item_code ?zzN ?zzm ?zzi ?zzc ?zze ?_; (case zzN => k_asm); (case zzm => k_mem); (case zzc => assumption); (case zze => first | rfl | omega); (case zzi => exact strs_split (by assumption) (by assumption))); intro t'w)
  k_with "M call builtin:len" => (k_here; k_dflt (refine' len_code ?zzN ?zzm ?zzi ?_; (case zzN => k_asm); (case zzm => k_mem); (case zzi => exact strs_split (by assumption) (by assumption))))
  trivial

theorem law_lam_0 {w : World} {f c' : Addr} {qual : Str} {params : Arguments} {body : Expr} {scope : Scope} {pos : Pos} {pm ctv : Value} {vsc : Array Value} {oc : Obj} {t1 : Tok} {cN : Addr} {oN : Obj} {k : Int} {tk0 : Tok} {code : Str}
  (hlam : lawLams[(0 : Nat)]? = some (.Lambda params body scope pos)) (hoc : oc.data = .fields vsc) (hoq : vsc[1]? = some (.str qual t1)) (hdN : oN.data = .cell (some (.int k tk0))) (hck : IsCode k code) :
  WorkK w f code [(f, kla_obj "<lambda>" qual params body scope [("number", cN)] pm c' ctv), (c', oc), (cN, oN)] (· = [(f, kla_obj "<lambda>" qual params body scope [("number", cN)] pm c' ctv), (c', oc), (cN, oN)]) := by
  intro eL base h₀ outer cn cs L a ccd cl m mg mb p loose mean s Q E B F X T hck0 N hE
  have hlo := hck.lo
  have hhi := hck.hi
  revert X; k_fill; intro X
  rw [show lawLams[(0 : Nat)]? = some (.Lambda _ _ _ _) from rfl] at hlam
  cases hlam
  refine wpAny_call ?_
  refine' kla_code (env := envX cn cs L a ccd cl) (outer := outer) B F X N T (Around.frames_deeper B.stack) rfl hck0 (by k_mem) (codeRec_news N (by k_mem) hoc hoq) ?k8 rfl ?kB ?_ ?c2 ?c3 ?c4 ?c5
  case k8 => k_room
  case kB => exact locs rfl
  case c2 => exact rfl
  case c3 => exact rfl
  case c4 => exact rfl
  case c5 => decide
  intro g' L' h' FG' F' N' B' X' T'
  clear N F
  k_fold
  k_steps
  all_goals first | exact hE _ _ _ _ _ _ _ rfl FG' (raisedB_sub (by assumption) (fun q hq => by repeat (first | exact hq | refine List.mem_cons_of_mem _ ?_))) (by assumption)

theorem law_lam_1 {w : World} {f c' : Addr} {qual : Str} {params : Arguments} {body : Expr} {scope : Scope} {pos : Pos} {pm ctv : Value} {vsc : Array Value} {oc : Obj} {t1 : Tok} {cw W dW : Addr} {ow : Obj} {esW : List DictEntry} {nW : Nat} {code : Str} {te : Tok} {hv : Value}
  (hlam : lawLams[(1 : Nat)]? = some (.Lambda params body scope pos)) (hoc : oc.data = .fields vsc) (hoq : vsc[1]? = some (.str qual t1)) (hdw : ow.data = .cell (some (.ref W))) (gH : getL "handler" esW = some (some hv)) (gI : getL "is_handling" esW = some (some (.bool true))) (gE : getL "error_code" esW = some (some (.str code te))) (hlW : esW.length ≤ 1000) (na : ¬ f = dW) (nb : ¬ c' = dW) (nc : ¬ cw = dW) (nd : ¬ W = dW) :
  WorkK w f code [(f, kla_obj "<lambda>" qual params body scope [("world", cw)] pm c' ctv), (c', oc), (cw, ow), (W, instObj 386 dW), (dW, dictOf esW nW)] (fun ls' => ∃ es' n' th, PutAt "handler" (.int 0 th) esW es' ∧ es'.length ≤ 1000 ∧ ls' = [(f, kla_obj "<lambda>" qual params body scope [("world", cw)] pm c' ctv), (c', oc), (cw, ow), (W, instObj 386 dW), (dW, dictOf es' n')]) := by
  intro eL base h₀ outer cn cs L a ccd cl m mg mb p loose mean s Q E B F X T hck0 N hE
  revert X; k_fill; intro X
  rw [show lawLams[(1 : Nat)]? = some (.Lambda _ _ _ _) from rfl] at hlam
  cases hlam
  refine wpAny_call ?_
  refine' kla_code (env := envX cn cs L a ccd cl) (outer := outer) B F X N T (Around.frames_deeper B.stack) rfl hck0 (by k_mem) (codeRec_news N (by k_mem) hoc hoq) ?k8 rfl ?kB ?_ ?c2 ?c3 ?c4 ?c5
  case k8 => k_room
  case kB => exact locs rfl
  case c2 => exact rfl
  case c3 => exact rfl
  case c4 => exact rfl
  case c5 => decide
  intro g' L' h' FG' F' N' B' X' T'
  clear N F
  k_fold
  k_steps
  all_goals exact hE _ _ _ _ _ _ _ ⟨_, _, _, by assumption, by assumption, rfl⟩ FG' (raisedB_sub (by assumption) (fun q hq => by repeat (first | exact hq | refine List.mem_cons_of_mem _ ?_))) (by assumption)
end
section
theorem w_EX21 : True := by
  k_with_none
  trivial
open PySem.Calls PySem.Spec PyProof.Rows.LCg

def Held (p : Prop) : Prop := p
theorem held {p : Prop} (h : Held p) : p := h

structure WF (dO dF dA : Addr) (es : List DictEntry) : Prop where
  op : getL "open" es = some (some (.ref dO))
  fi : getL "files" es = some (some (.ref dF))
  ar : getL "arrays" es = some (some (.ref dA))
  st : ∃ n t, getL "steps" es = some (some (.int n t)) ∧ 0 ≤ n
  ms : ∃ t, getL "most_steps" es = some (some (.int 0 t))
  ih : getL "is_handling" es = some (some (.bool false))
  ha : ∃ v, getL "handler" es = some (some v)
  ec : ∃ v, getL "error_code" es = some (some v)
  el : ∃ v, getL "error_line" es = some (some v)
  len : es.length ≤ 1000
structure CF (PL : Addr) (es : List DictEntry) : Prop where
  pi : getL "pile" es = some (some (.ref PL))
  fa : ∃ v, getL "failed_at" es = some (some v)
  len : es.length ≤ 1000
def ItemOK (w : World) (W dW C dC dO dF dA PL : Addr) (rest : List (Addr × Obj)) (f : Addr) (code : Str) : Prop :=
  ∀ esW nW esC nC, WF dO dF dA esW → CF PL esC → ∃ ls P, WorkK w f code ls P ∧ (∀ q ∈ ls, q ∈ (W, instObj 386 dW) :: (dW, dictOf esW nW) :: (C, instObj 138 dC) :: (dC, dictOf esC nC) :: rest) ∧
    ∀ ls', P ls' → ∃ esW' nW', WF dO dF dA esW' ∧ ((dW, dictOf esW' nW') ∈ ls' ∨ (dW ∉ ls.map (·.1) ∧ esW' = esW ∧ nW' = nW)) ∧ ∀ q ∈ ls, ¬ q.1 = dW → q ∈ ls'

theorem after_work {h₀ h h' : Heap} {L dW : Addr} {big ls ls' : List (Addr × Obj)} {g : Obj → List (Addr × Obj)} {esW esW' : List DictEntry} {nW nW' : Nat} (N : News h₀ L h big) (hsub : ∀ q ∈ ls, q ∈ big)
    (hN : ∀ q, (q ∈ ls' ∨ (q ∈ big ∧ q.1 ∉ ls.map (·.1))) → h'.get? q.1 = some q.2 ∧ q.1 ≠ L ∧ h₀.get? q.1 = none)
    (hdW : (dW, dictOf esW' nW') ∈ ls' ∨ (dW ∉ ls.map (·.1) ∧ esW' = esW ∧ nW' = nW)) (hls' : ∀ q ∈ ls, ¬ q.1 = dW → q ∈ ls')
    (U : UpdF dW (dictOf esW nW) big g) : News h₀ L h' (g (dictOf esW' nW')) := fun q hq => hN q (by
  rcases updF_mem U q hq with rfl | ⟨hq, hn⟩
  · rcases hdW with hd | ⟨hd, rfl, rfl⟩
    · exact .inl hd
    · exact .inr ⟨updF_has U, hd⟩
  · by_cases hm : q.1 ∈ ls.map (·.1)
    · exact .inl (hls' q (listed N hsub hq hm) hn)
    · exact .inr ⟨hq, hm⟩)
theorem after_same {h₀ h h' : Heap} {L : Addr} {big ls : List (Addr × Obj)} (N : News h₀ L h big) (hsub : ∀ q ∈ ls, q ∈ big)
    (hN : ∀ q, (q ∈ ls ∨ (q ∈ big ∧ q.1 ∉ ls.map (·.1))) → h'.get? q.1 = some q.2 ∧ q.1 ≠ L ∧ h₀.get? q.1 = none) : News h₀ L h' big := fun q hq => hN q (by
  by_cases hm : q.1 ∈ ls.map (·.1)
  · exact .inl (listed N hsub hq hm)
  · exact .inr ⟨hq, hm⟩)
theorem in_big {q a b c d x1 x2 x3 x4 x5 x6 : Addr × Obj} {r : List (Addr × Obj)} (h : q ∈ a :: b :: c :: d :: r) : q ∈ x1 :: x2 :: x3 :: x4 :: x5 :: a :: b :: c :: d :: x6 :: r := by
  rcases List.mem_cons.mp h with rfl | h
  · exact .tail _ (.tail _ (.tail _ (.tail _ (.tail _ (.head _)))))
  rcases List.mem_cons.mp h with rfl | h
  · exact .tail _ (.tail _ (.tail _ (.tail _ (.tail _ (.tail _ (.head _))))))
  rcases List.mem_cons.mp h with rfl | h
  · exact .tail _ (.tail _ (.tail _ (.tail _ (.tail _ (.tail _ (.tail _ (.head _)))))))
  rcases List.mem_cons.mp h with rfl | h
  · exact .tail _ (.tail _ (.tail _ (.tail _ (.tail _ (.tail _ (.tail _ (.tail _ (.head _))))))))
  · exact .tail _ (.tail _ (.tail _ (.tail _ (.tail _ (.tail _ (.tail _ (.tail _ (.tail _ (.tail _ h)))))))))

theorem pickN {h₀ h : Heap} {L : Addr} {big news : List (Addr × Obj)} (N : News h₀ L h big) (hs : ∀ q ∈ news, q ∈ big) : News h₀ L h news := fun q hq => N q (hs q hq)
theorem WF.elim {dO dF dA : Addr} {es : List DictEntry} {P : Prop} (h : WF dO dF dA es) (k : ∀ {nst : Int} {tst tms : Tok} {vh ve vl : Value}, getL "open" es = some (some (.ref dO)) → getL "files" es = some (some (.ref dF)) → getL "arrays" es = some (some (.ref dA)) → getL "steps" es = some (some (.int nst tst)) → 0 ≤ nst → getL "most_steps" es = some (some (.int 0 tms)) → getL "is_handling" es = some (some (.bool false)) →
    getL "handler" es = some (some vh) → getL "error_code" es = some (some ve) → getL "error_line" es = some (some vl) → es.length ≤ 1000 → P) : P := by
  obtain ⟨a, b, c, ⟨n, t, d, e⟩, ⟨t2, f⟩, g, ⟨v1, i⟩, ⟨v2, j⟩, ⟨v3, l⟩, z⟩ := h
  exact k a b c d e f g i j l z
theorem CF.elim {PL : Addr} {es : List DictEntry} {P : Prop} (h : CF PL es) (k : ∀ {v : Value}, getL "pile" es = some (some (.ref PL)) → getL "failed_at" es = some (some v) → es.length ≤ 1000 → P) : P := by
  obtain ⟨a, ⟨v, b⟩, z⟩ := h
  exact k a b z
theorem nodup_ne10 {P : Prop} {a0 a1 a2 a3 a4 a5 a6 a7 a8 a9 : Addr} (h : ([a0, a1, a2, a3, a4, a5, a6, a7, a8, a9] : List Addr).Nodup) (k : ¬ a0 = a1 → ¬ a0 = a2 → ¬ a0 = a3 → ¬ a0 = a4 → ¬ a0 = a5 → ¬ a0 = a6 → ¬ a0 = a7 → ¬ a0 = a8 → ¬ a0 = a9 → ¬ a1 = a2 → ¬ a1 = a3 → ¬ a1 = a4 → ¬ a1 = a5 → ¬ a1 = a6 → ¬ a1 = a7 → ¬ a1 = a8 → ¬ a1 = a9 → ¬ a2 = a3 → ¬ a2 = a4 → ¬ a2 = a5 → ¬ a2 = a6 → ¬ a2 = a7 → ¬ a2 = a8 → ¬ a2 = a9 → ¬ a3 = a4 → ¬ a3 = a5 → ¬ a3 = a6 → ¬ a3 = a7 → ¬ a3 = a8 → ¬ a3 = a9 → ¬ a4 = a5 → ¬ a4 = a6 → ¬ a4 = a7 → ¬ a4 = a8 → ¬ a4 = a9 → ¬ a5 = a6 → ¬ a5 = a7 → ¬ a5 = a8 → ¬ a5 = a9 → ¬ a6 = a7 → ¬ a6 = a8 → ¬ a6 = a9 → ¬ a7 = a8 → ¬ a7 = a9 → ¬ a8 = a9 → P) : P := by
  have ne : ∀ (i j : Nat) (hi : i < 10) (hj : j < 10), i < j → ¬ ([a0, a1, a2, a3, a4, a5, a6, a7, a8, a9] : List Addr)[i]'hi = ([a0, a1, a2, a3, a4, a5, a6, a7, a8, a9] : List Addr)[j]'hj := fun i j hi hj hij => List.pairwise_iff_getElem.mp h i j hi hj hij
  exact k (ne 0 1 (by decide) (by decide) (by decide)) (ne 0 2 (by decide) (by decide) (by decide)) (ne 0 3 (by decide) (by decide) (by decide)) (ne 0 4 (by decide) (by decide) (by decide)) (ne 0 5 (by decide) (by decide) (by decide)) (ne 0 6 (by decide) (by decide) (by decide)) (ne 0 7 (by decide) (by decide) (by decide)) (ne 0 8 (by decide) (by decide) (by decide)) (ne 0 9 (by decide) (by decide) (by decide)) (ne 1 2 (by decide) (by decide) (by decide)) (ne 1 3 (by decide) (by decide) (by decide)) (ne 1 4 (by decide) (by decide) (by decide)) (ne 1 5 (by decide) (by decide) (by decide)) (ne 1 6 (by decide) (by decide) (by decide)) (ne 1 7 (by decide) (by decide) (by decide)) (ne 1 8 (by decide) (by decide) (by decide)) (ne 1 9 (by decide) (by decide) (by decide)) (ne 2 3 (by decide) (by decide) (by decide)) (ne 2 4 (by decide) (by decide) (by decide)) (ne 2 5 (by decide) (by decide) (by decide)) (ne 2 6 (by decide) (by decide) (by decide)) (ne 2 7 (by decide) (by decide) (by decide)) (ne 2 8 (by decide) (by decide) (by decide)) (ne 2 9 (by decide) (by decide) (by decide)) (ne 3 4 (by decide) (by decide) (by decide)) (ne 3 5 (by decide) (by decide) (by decide)) (ne 3 6 (by decide) (by decide) (by decide)) (ne 3 7 (by decide) (by decide) (by decide)) (ne 3 8 (by decide) (by decide) (by decide)) (ne 3 9 (by decide) (by decide) (by decide)) (ne 4 5 (by decide) (by decide) (by decide)) (ne 4 6 (by decide) (by decide) (by decide)) (ne 4 7 (by decide) (by decide) (by decide)) (ne 4 8 (by decide) (by decide) (by decide)) (ne 4 9 (by decide) (by decide) (by decide)) (ne 5 6 (by decide) (by decide) (by decide)) (ne 5 7 (by decide) (by decide) (by decide)) (ne 5 8 (by decide) (by decide) (by decide)) (ne 5 9 (by decide) (by decide) (by decide)) (ne 6 7 (by decide) (by decide) (by decide)) (ne 6 8 (by decide) (by decide) (by decide)) (ne 6 9 (by decide) (by decide) (by decide)) (ne 7 8 (by decide) (by decide) (by decide)) (ne 7 9 (by decide) (by decide) (by decide)) (ne 8 9 (by decide) (by decide) (by decide))
theorem nodup_ne12 {P : Prop} {a0 a1 a2 a3 a4 a5 a6 a7 a8 a9 a10 a11 : Addr} (h : ([a0, a1, a2, a3, a4, a5, a6, a7, a8, a9, a10, a11] : List Addr).Nodup) (k : ¬ a0 = a1 → ¬ a0 = a2 → ¬ a0 = a3 → ¬ a0 = a4 → ¬ a0 = a5 → ¬ a0 = a6 → ¬ a0 = a7 → ¬ a0 = a8 → ¬ a0 = a9 → ¬ a0 = a10 → ¬ a0 = a11 → ¬ a1 = a2 → ¬ a1 = a3 → ¬ a1 = a4 → ¬ a1 = a5 → ¬ a1 = a6 → ¬ a1 = a7 → ¬ a1 = a8 → ¬ a1 = a9 → ¬ a1 = a10 → ¬ a1 = a11 → ¬ a2 = a3 → ¬ a2 = a4 → ¬ a2 = a5 → ¬ a2 = a6 → ¬ a2 = a7 → ¬ a2 = a8 → ¬ a2 = a9 → ¬ a2 = a10 → ¬ a2 = a11 → ¬ a3 = a4 → ¬ a3 = a5 → ¬ a3 = a6 → ¬ a3 = a7 → ¬ a3 = a8 → ¬ a3 = a9 → ¬ a3 = a10 → ¬ a3 = a11 → ¬ a4 = a5 → ¬ a4 = a6 → ¬ a4 = a7 → ¬ a4 = a8 → ¬ a4 = a9 → ¬ a4 = a10 → ¬ a4 = a11 → ¬ a5 = a6 → ¬ a5 = a7 → ¬ a5 = a8 → ¬ a5 = a9 → ¬ a5 = a10 → ¬ a5 = a11 → ¬ a6 = a7 → ¬ a6 = a8 → ¬ a6 = a9 → ¬ a6 = a10 → ¬ a6 = a11 → ¬ a7 = a8 → ¬ a7 = a9 → ¬ a7 = a10 → ¬ a7 = a11 → ¬ a8 = a9 → ¬ a8 = a10 → ¬ a8 = a11 → ¬ a9 = a10 → ¬ a9 = a11 → ¬ a10 = a11 → P) : P := by
  have ne : ∀ (i j : Nat) (hi : i < 12) (hj : j < 12), i < j → ¬ ([a0, a1, a2, a3, a4, a5, a6, a7, a8, a9, a10, a11] : List Addr)[i]'hi = ([a0, a1, a2, a3, a4, a5, a6, a7, a8, a9, a10, a11] : List Addr)[j]'hj := fun i j hi hj hij => List.pairwise_iff_getElem.mp h i j hi hj hij
  exact k (ne 0 1 (by decide) (by decide) (by decide)) (ne 0 2 (by decide) (by decide) (by decide)) (ne 0 3 (by decide) (by decide) (by decide)) (ne 0 4 (by decide) (by decide) (by decide)) (ne 0 5 (by decide) (by decide) (by decide)) (ne 0 6 (by decide) (by decide) (by decide)) (ne 0 7 (by decide) (by decide) (by decide)) (ne 0 8 (by decide) (by decide) (by decide)) (ne 0 9 (by decide) (by decide) (by decide)) (ne 0 10 (by decide) (by decide) (by decide)) (ne 0 11 (by decide) (by decide) (by decide)) (ne 1 2 (by decide) (by decide) (by decide)) (ne 1 3 (by decide) (by decide) (by decide)) (ne 1 4 (by decide) (by decide) (by decide)) (ne 1 5 (by decide) (by decide) (by decide)) (ne 1 6 (by decide) (by decide) (by decide)) (ne 1 7 (by decide) (by decide) (by decide)) (ne 1 8 (by decide) (by decide) (by decide)) (ne 1 9 (by decide) (by decide) (by decide)) (ne 1 10 (by decide) (by decide) (by decide)) (ne 1 11 (by decide) (by decide) (by decide)) (ne 2 3 (by decide) (by decide) (by decide)) (ne 2 4 (by decide) (by decide) (by decide)) (ne 2 5 (by decide) (by decide) (by decide)) (ne 2 6 (by decide) (by decide) (by decide)) (ne 2 7 (by decide) (by decide) (by decide)) (ne 2 8 (by decide) (by decide) (by decide)) (ne 2 9 (by decide) (by decide) (by decide)) (ne 2 10 (by decide) (by decide) (by decide)) (ne 2 11 (by decide) (by decide) (by decide)) (ne 3 4 (by decide) (by decide) (by decide)) (ne 3 5 (by decide) (by decide) (by decide)) (ne 3 6 (by decide) (by decide) (by decide)) (ne 3 7 (by decide) (by decide) (by decide)) (ne 3 8 (by decide) (by decide) (by decide)) (ne 3 9 (by decide) (by decide) (by decide)) (ne 3 10 (by decide) (by decide) (by decide)) (ne 3 11 (by decide) (by decide) (by decide)) (ne 4 5 (by decide) (by decide) (by decide)) (ne 4 6 (by decide) (by decide) (by decide)) (ne 4 7 (by decide) (by decide) (by decide)) (ne 4 8 (by decide) (by decide) (by decide)) (ne 4 9 (by decide) (by decide) (by decide)) (ne 4 10 (by decide) (by decide) (by decide)) (ne 4 11 (by decide) (by decide) (by decide)) (ne 5 6 (by decide) (by decide) (by decide)) (ne 5 7 (by decide) (by decide) (by decide)) (ne 5 8 (by decide) (by decide) (by decide)) (ne 5 9 (by decide) (by decide) (by decide)) (ne 5 10 (by decide) (by decide) (by decide)) (ne 5 11 (by decide) (by decide) (by decide)) (ne 6 7 (by decide) (by decide) (by decide)) (ne 6 8 (by decide) (by decide) (by decide)) (ne 6 9 (by decide) (by decide) (by decide)) (ne 6 10 (by decide) (by decide) (by decide)) (ne 6 11 (by decide) (by decide) (by decide)) (ne 7 8 (by decide) (by decide) (by decide)) (ne 7 9 (by decide) (by decide) (by decide)) (ne 7 10 (by decide) (by decide) (by decide)) (ne 7 11 (by decide) (by decide) (by decide)) (ne 8 9 (by decide) (by decide) (by decide)) (ne 8 10 (by decide) (by decide) (by decide)) (ne 8 11 (by decide) (by decide) (by decide)) (ne 9 10 (by decide) (by decide) (by decide)) (ne 9 11 (by decide) (by decide) (by decide)) (ne 10 11 (by decide) (by decide) (by decide))
theorem nodup_ne13 {P : Prop} {a0 a1 a2 a3 a4 a5 a6 a7 a8 a9 a10 a11 a12 : Addr} (h : ([a0, a1, a2, a3, a4, a5, a6, a7, a8, a9, a10, a11, a12] : List Addr).Nodup) (k : ¬ a0 = a1 → ¬ a0 = a2 → ¬ a0 = a3 → ¬ a0 = a4 → ¬ a0 = a5 → ¬ a0 = a6 → ¬ a0 = a7 → ¬ a0 = a8 → ¬ a0 = a9 → ¬ a0 = a10 → ¬ a0 = a11 → ¬ a0 = a12 → ¬ a1 = a2 → ¬ a1 = a3 → ¬ a1 = a4 → ¬ a1 = a5 → ¬ a1 = a6 → ¬ a1 = a7 → ¬ a1 = a8 → ¬ a1 = a9 → ¬ a1 = a10 → ¬ a1 = a11 → ¬ a1 = a12 → ¬ a2 = a3 → ¬ a2 = a4 → ¬ a2 = a5 → ¬ a2 = a6 → ¬ a2 = a7 → ¬ a2 = a8 → ¬ a2 = a9 → ¬ a2 = a10 → ¬ a2 = a11 → ¬ a2 = a12 → ¬ a3 = a4 → ¬ a3 = a5 → ¬ a3 = a6 → ¬ a3 = a7 → ¬ a3 = a8 → ¬ a3 = a9 → ¬ a3 = a10 → ¬ a3 = a11 → ¬ a3 = a12 → ¬ a4 = a5 → ¬ a4 = a6 → ¬ a4 = a7 → ¬ a4 = a8 → ¬ a4 = a9 → ¬ a4 = a10 → ¬ a4 = a11 → ¬ a4 = a12 → ¬ a5 = a6 → ¬ a5 = a7 → ¬ a5 = a8 → ¬ a5 = a9 → ¬ a5 = a10 → ¬ a5 = a11 → ¬ a5 = a12 → ¬ a6 = a7 → ¬ a6 = a8 → ¬ a6 = a9 → ¬ a6 = a10 → ¬ a6 = a11 → ¬ a6 = a12 → ¬ a7 = a8 → ¬ a7 = a9 → ¬ a7 = a10 → ¬ a7 = a11 → ¬ a7 = a12 → ¬ a8 = a9 → ¬ a8 = a10 → ¬ a8 = a11 → ¬ a8 = a12 → ¬ a9 = a10 → ¬ a9 = a11 → ¬ a9 = a12 → ¬ a10 = a11 → ¬ a10 = a12 → ¬ a11 = a12 → P) : P := by
  have ne : ∀ (i j : Nat) (hi : i < 13) (hj : j < 13), i < j → ¬ ([a0, a1, a2, a3, a4, a5, a6, a7, a8, a9, a10, a11, a12] : List Addr)[i]'hi = ([a0, a1, a2, a3, a4, a5, a6, a7, a8, a9, a10, a11, a12] : List Addr)[j]'hj := fun i j hi hj hij => List.pairwise_iff_getElem.mp h i j hi hj hij
  exact k (ne 0 1 (by decide) (by decide) (by decide)) (ne 0 2 (by decide) (by decide) (by decide)) (ne 0 3 (by decide) (by decide) (by decide)) (ne 0 4 (by decide) (by decide) (by decide)) (ne 0 5 (by decide) (by decide) (by decide)) (ne 0 6 (by decide) (by decide) (by decide)) (ne 0 7 (by decide) (by decide) (by decide)) (ne 0 8 (by decide) (by decide) (by decide)) (ne 0 9 (by decide) (by decide) (by decide)) (ne 0 10 (by decide) (by decide) (by decide)) (ne 0 11 (by decide) (by decide) (by decide)) (ne 0 12 (by decide) (by decide) (by decide)) (ne 1 2 (by decide) (by decide) (by decide)) (ne 1 3 (by decide) (by decide) (by decide)) (ne 1 4 (by decide) (by decide) (by decide)) (ne 1 5 (by decide) (by decide) (by decide)) (ne 1 6 (by decide) (by decide) (by decide)) (ne 1 7 (by decide) (by decide) (by decide)) (ne 1 8 (by decide) (by decide) (by decide)) (ne 1 9 (by decide) (by decide) (by decide)) (ne 1 10 (by decide) (by decide) (by decide)) (ne 1 11 (by decide) (by decide) (by decide)) (ne 1 12 (by decide) (by decide) (by decide)) (ne 2 3 (by decide) (by decide) (by decide)) (ne 2 4 (by decide) (by decide) (by decide)) (ne 2 5 (by decide) (by decide) (by decide)) (ne 2 6 (by decide) (by decide) (by decide)) (ne 2 7 (by decide) (by decide) (by decide)) (ne 2 8 (by decide) (by decide) (by decide)) (ne 2 9 (by decide) (by decide) (by decide)) (ne 2 10 (by decide) (by decide) (by decide)) (ne 2 11 (by decide) (by decide) (by decide)) (ne 2 12 (by decide) (by decide) (by decide)) (ne 3 4 (by decide) (by decide) (by decide)) (ne 3 5 (by decide) (by decide) (by decide)) (ne 3 6 (by decide) (by decide) (by decide)) (ne 3 7 (by decide) (by decide) (by decide)) (ne 3 8 (by decide) (by decide) (by decide)) (ne 3 9 (by decide) (by decide) (by decide)) (ne 3 10 (by decide) (by decide) (by decide)) (ne 3 11 (by decide) (by decide) (by decide)) (ne 3 12 (by decide) (by decide) (by decide)) (ne 4 5 (by decide) (by decide) (by decide)) (ne 4 6 (by decide) (by decide) (by decide)) (ne 4 7 (by decide) (by decide) (by decide)) (ne 4 8 (by decide) (by decide) (by decide)) (ne 4 9 (by decide) (by decide) (by decide)) (ne 4 10 (by decide) (by decide) (by decide)) (ne 4 11 (by decide) (by decide) (by decide)) (ne 4 12 (by decide) (by decide) (by decide)) (ne 5 6 (by decide) (by decide) (by decide)) (ne 5 7 (by decide) (by decide) (by decide)) (ne 5 8 (by decide) (by decide) (by decide)) (ne 5 9 (by decide) (by decide) (by decide)) (ne 5 10 (by decide) (by decide) (by decide)) (ne 5 11 (by decide) (by decide) (by decide)) (ne 5 12 (by decide) (by decide) (by decide)) (ne 6 7 (by decide) (by decide) (by decide)) (ne 6 8 (by decide) (by decide) (by decide)) (ne 6 9 (by decide) (by decide) (by decide)) (ne 6 10 (by decide) (by decide) (by decide)) (ne 6 11 (by decide) (by decide) (by decide)) (ne 6 12 (by decide) (by decide) (by decide)) (ne 7 8 (by decide) (by decide) (by decide)) (ne 7 9 (by decide) (by decide) (by decide)) (ne 7 10 (by decide) (by decide) (by decide)) (ne 7 11 (by decide) (by decide) (by decide)) (ne 7 12 (by decide) (by decide) (by decide)) (ne 8 9 (by decide) (by decide) (by decide)) (ne 8 10 (by decide) (by decide) (by decide)) (ne 8 11 (by decide) (by decide) (by decide)) (ne 8 12 (by decide) (by decide) (by decide)) (ne 9 10 (by decide) (by decide) (by decide)) (ne 9 11 (by decide) (by decide) (by decide)) (ne 9 12 (by decide) (by decide) (by decide)) (ne 10 11 (by decide) (by decide) (by decide)) (ne 10 12 (by decide) (by decide) (by decide)) (ne 11 12 (by decide) (by decide) (by decide))
theorem nodup_ne11 {P : Prop} {a0 a1 a2 a3 a4 a5 a6 a7 a8 a9 a10 : Addr} (h : ([a0, a1, a2, a3, a4, a5, a6, a7, a8, a9, a10] : List Addr).Nodup) (k : ¬ a0 = a1 → ¬ a0 = a2 → ¬ a0 = a3 → ¬ a0 = a4 → ¬ a0 = a5 → ¬ a0 = a6 → ¬ a0 = a7 → ¬ a0 = a8 → ¬ a0 = a9 → ¬ a0 = a10 → ¬ a1 = a2 → ¬ a1 = a3 → ¬ a1 = a4 → ¬ a1 = a5 → ¬ a1 = a6 → ¬ a1 = a7 → ¬ a1 = a8 → ¬ a1 = a9 → ¬ a1 = a10 → ¬ a2 = a3 → ¬ a2 = a4 → ¬ a2 = a5 → ¬ a2 = a6 → ¬ a2 = a7 → ¬ a2 = a8 → ¬ a2 = a9 → ¬ a2 = a10 → ¬ a3 = a4 → ¬ a3 = a5 → ¬ a3 = a6 → ¬ a3 = a7 → ¬ a3 = a8 → ¬ a3 = a9 → ¬ a3 = a10 → ¬ a4 = a5 → ¬ a4 = a6 → ¬ a4 = a7 → ¬ a4 = a8 → ¬ a4 = a9 → ¬ a4 = a10 → ¬ a5 = a6 → ¬ a5 = a7 → ¬ a5 = a8 → ¬ a5 = a9 → ¬ a5 = a10 → ¬ a6 = a7 → ¬ a6 = a8 → ¬ a6 = a9 → ¬ a6 = a10 → ¬ a7 = a8 → ¬ a7 = a9 → ¬ a7 = a10 → ¬ a8 = a9 → ¬ a8 = a10 → ¬ a9 = a10 → P) : P := by
  have ne : ∀ (i j : Nat) (hi : i < 11) (hj : j < 11), i < j → ¬ ([a0, a1, a2, a3, a4, a5, a6, a7, a8, a9, a10] : List Addr)[i]'hi = ([a0, a1, a2, a3, a4, a5, a6, a7, a8, a9, a10] : List Addr)[j]'hj := fun i j hi hj hij => List.pairwise_iff_getElem.mp h i j hi hj hij
  exact k (ne 0 1 (by decide) (by decide) (by decide)) (ne 0 2 (by decide) (by decide) (by decide)) (ne 0 3 (by decide) (by decide) (by decide)) (ne 0 4 (by decide) (by decide) (by decide)) (ne 0 5 (by decide) (by decide) (by decide)) (ne 0 6 (by decide) (by decide) (by decide)) (ne 0 7 (by decide) (by decide) (by decide)) (ne 0 8 (by decide) (by decide) (by decide)) (ne 0 9 (by decide) (by decide) (by decide)) (ne 0 10 (by decide) (by decide) (by decide)) (ne 1 2 (by decide) (by decide) (by decide)) (ne 1 3 (by decide) (by decide) (by decide)) (ne 1 4 (by decide) (by decide) (by decide)) (ne 1 5 (by decide) (by decide) (by decide)) (ne 1 6 (by decide) (by decide) (by decide)) (ne 1 7 (by decide) (by decide) (by decide)) (ne 1 8 (by decide) (by decide) (by decide)) (ne 1 9 (by decide) (by decide) (by decide)) (ne 1 10 (by decide) (by decide) (by decide)) (ne 2 3 (by decide) (by decide) (by decide)) (ne 2 4 (by decide) (by decide) (by decide)) (ne 2 5 (by decide) (by decide) (by decide)) (ne 2 6 (by decide) (by decide) (by decide)) (ne 2 7 (by decide) (by decide) (by decide)) (ne 2 8 (by decide) (by decide) (by decide)) (ne 2 9 (by decide) (by decide) (by decide)) (ne 2 10 (by decide) (by decide) (by decide)) (ne 3 4 (by decide) (by decide) (by decide)) (ne 3 5 (by decide) (by decide) (by decide)) (ne 3 6 (by decide) (by decide) (by decide)) (ne 3 7 (by decide) (by decide) (by decide)) (ne 3 8 (by decide) (by decide) (by decide)) (ne 3 9 (by decide) (by decide) (by decide)) (ne 3 10 (by decide) (by decide) (by decide)) (ne 4 5 (by decide) (by decide) (by decide)) (ne 4 6 (by decide) (by decide) (by decide)) (ne 4 7 (by decide) (by decide) (by decide)) (ne 4 8 (by decide) (by decide) (by decide)) (ne 4 9 (by decide) (by decide) (by decide)) (ne 4 10 (by decide) (by decide) (by decide)) (ne 5 6 (by decide) (by decide) (by decide)) (ne 5 7 (by decide) (by decide) (by decide)) (ne 5 8 (by decide) (by decide) (by decide)) (ne 5 9 (by decide) (by decide) (by decide)) (ne 5 10 (by decide) (by decide) (by decide)) (ne 6 7 (by decide) (by decide) (by decide)) (ne 6 8 (by decide) (by decide) (by decide)) (ne 6 9 (by decide) (by decide) (by decide)) (ne 6 10 (by decide) (by decide) (by decide)) (ne 7 8 (by decide) (by decide) (by decide)) (ne 7 9 (by decide) (by decide) (by decide)) (ne 7 10 (by decide) (by decide) (by decide)) (ne 8 9 (by decide) (by decide) (by decide)) (ne 8 10 (by decide) (by decide) (by decide)) (ne 9 10 (by decide) (by decide) (by decide))
/-- a work's call in the law's turn -/
theorem law_item {w : World} {W dW C dC dO dF dA PL f : Addr} {rest big : List (Addr × Obj)} {code : Str} {esW esC : List DictEntry} {nW nC : Nat} {g : Obj → List (Addr × Obj)} (hitem : ItemOK w W dW C dC dO dF dA PL rest f code) (hw : WF dO dF dA esW) (hc : CF PL esC)
    {h₀ : Heap} {ln : Str} {lsc : Scope} {L a : Addr} {lcd : Value} {cells : List (Str × Addr)} {m mg mb : Str → Option Value} {p : Program} {loose : List Str} {mean : ExcName → Option Value} {s : Shared} {Q E : Value → Shared → Prop}
    (F : Fr h₀ L s.heap m) (N : News h₀ L s.heap big) (X : (hd.heap_1_39 w.params).In h₀) (T : Top p loose mean mg mb h₀) (hk : lsc.kind = .function) (hin : ∀ q ∈ (W, instObj 386 dW) :: (dW, dictOf esW nW) :: (C, instObj 138 dC) :: (dC, dictOf esC nC) :: rest, q ∈ big) (hfn : FnAt f s.heap) (U : UpdF dW (dictOf esW nW) big g)
    (hQ : ∀ h' tk tc esW' nW', WF dO dF dA esW' → Fr h₀ L h' m → News h₀ L h' (g (dictOf esW' nW')) → Q (.str code tc) { s with heap := h', toks := tk }) :
    wpAny (model RW.row.prog w) (callerA.deeper (envX ln lsc L a lcd cells)) (call (.ref 411) [.ref f]) Q E s := by
  obtain ⟨ls, P, hWk, hls, hP'⟩ := hitem esW nW esC nC hw hc
  refine law_code hWk F N X T hk (fun q hq => hin q (hls q hq)) hfn (fun h' tk tc' ls' hp F' hN => ?_)
  obtain ⟨esW', nW', hw', hdW, hls'⟩ := hP' ls' hp
  exact hQ h' tk tc' esW' nW' hw' F' (after_work N (fun q hq => hin q (hls q hq)) hN hdW hls' U)
/-- the code table of the law once both lambdas of the turn have been met -/
abbrev tab2 (c1 c2 : Addr) : Obj := tabObj #[rawInt 364, rawInt 70, .ref c1, rawInt 367, rawInt 21, .ref c2]

theorem in_big2 {q a b c d x1 x2 x3 x4 x5 x6 x7 x8 : Addr × Obj} {r : List (Addr × Obj)} (h : q ∈ a :: b :: c :: d :: r) : q ∈ x1 :: x2 :: x3 :: x4 :: x5 :: x7 :: x8 :: a :: b :: c :: d :: x6 :: r := by
  rcases List.mem_cons.mp h with rfl | h
  · exact .tail _ (.tail _ (.tail _ (.tail _ (.tail _ (.tail _ (.tail _ (.head _)))))))
  rcases List.mem_cons.mp h with rfl | h
  · exact .tail _ (.tail _ (.tail _ (.tail _ (.tail _ (.tail _ (.tail _ (.tail _ (.head _))))))))
  rcases List.mem_cons.mp h with rfl | h
  · exact .tail _ (.tail _ (.tail _ (.tail _ (.tail _ (.tail _ (.tail _ (.tail _ (.tail _ (.head _)))))))))
  rcases List.mem_cons.mp h with rfl | h
  · exact .tail _ (.tail _ (.tail _ (.tail _ (.tail _ (.tail _ (.tail _ (.tail _ (.tail _ (.tail _ (.head _))))))))))
  · exact .tail _ (.tail _ (.tail _ (.tail _ (.tail _ (.tail _ (.tail _ (.tail _ (.tail _ (.tail _ (.tail _ (.tail _ h)))))))))))
end
section
open PySem.Calls PySem.Spec PyProof.Rows.LCg
theorem w_V_t1_0 : True := by
  k_with_none
  k_with "M k_room" => ((try simp only [depth_mark, depth_under_make, depth_under_kw, depth_in1, depth_deeper]); exact Nat.lt_of_lt_of_le (m := 900) (by decide) (by decide))
  k_with "M exec Raise some none" => (k_here; (with_reducible show wpAny _ _ (exec (Stmt.Raise (some (Expr.Call (Expr.Name ("BasicError" : Str) _) _ [] _)) none _) _) _ _ _); k_dflt (refine' raise_K ?zzF ?zzX ?zzh ?_; (case zzF => k_asm); (case zzX => k_asm); (case zzh => first | rfl | assumption); k_whole))
  k_with "M call ref" => (k_here; k_dflt (refine wpAny_call ?_; refine' code_defC ?zzk1 ?zzk2 ?zzk3 ?zzk4 ?zzk5 ?zzkA ?zzkF ?zzkK ?zzk6 ?zzk7 ?zzk8 ?zzk9 ?zzkB ?zzkD ?_ ?zzc2 ?zzc3 ?zzc4; (case zzkA => exact Around.frames_deeper (Below.stack (by assumption))); (case zzkF => exact rfl); (case zzkK => exact rfl); (case zzk1 => k_asm); (case zzk2 => k_asm); (case zzk3 => k_asm); (case zzk4 => k_asm); (case zzk5 => k_asm); (case zzk6 => k_is); (case zzk7 => k_is); (case zzk8 => k_room); (case zzk9 => first | exact BindsTo.of_eq rfl | exact binds_K (by k_in) rfl (by k_is) rfl rfl rfl | fail "k_enter: no rule for these arguments"); (case zzkB => exact rfl); (case zzkD => decide +kernel); (case zzc2 => exact rfl); (case zzc3 => exact rfl); (case zzc4 => exact rfl); k_whole; intro g'w L'w h'w tk'w cells'w FG'w F'w N'w Y'w B'w X'w T'w l1'w; (try k_lt l1'w); k_cells Y'w; (try simp only [List.cons_append, List.nil_append] at N'w); (try dsimp only); (try k_lift B'w); (try k_fold)))
  k_with "M call ref" => (k_here; k_dflt (refine wpAny_call ?_; refine' code_def ?zzk1 ?zzk2 ?zzk3 ?zzk4 ?zzk5 ?zzkA ?zzkF ?zzkK ?zzk6 ?zzk7 ?zzk8 ?zzk9 ?zzkB ?_ ?zzc2 ?zzc3 ?zzc4 ?zzc5; (case zzkA => exact Around.frames_deeper (Below.stack (by assumption))); (case zzkF => exact rfl); (case zzkK => exact rfl); (case zzk1 => k_asm); (case zzk2 => k_asm); (case zzk3 => k_asm); (case zzk4 => k_asm); (case zzk5 => k_asm); (case zzk6 => k_is); (case zzk7 => k_is); (case zzk8 => k_room); (case zzk9 => first | exact BindsTo.of_eq rfl | exact binds_K (by k_in) rfl (by k_is) rfl rfl rfl | fail "k_enter: no rule for these arguments"); (case zzc5 => decide); (case zzkB => exact locs rfl); (case zzc2 => exact rfl); (case zzc3 => exact rfl); (case zzc4 => exact rfl); k_whole; intro g'w L'w h'w FG'w F'w N'w B'w X'w T'w; (try dsimp only); (try k_lift B'w); (try k_fold)))
  k_with "M call ref" => (k_here; (with_reducible show wpAny _ _ (call (Value.ref 34) _) _ _ _); k_dflt (refine' bx_make ?zzF ?zzX ?zzT ?zzr ?zzl ?_; (case zzF => k_asm); (case zzX => k_asm); (case zzT => k_asm); (case zzr => k_room); (case zzl => first | exact Nat.zero_le _ | exact Nat.le_refl _); k_whole); intro h'w tk'w e'w dx'w mb'w)
  k_with "M RaisesB" => (k_dflt (refine' raisesB_K ?zzF ?zzM ?_; (case zzF => k_asm); (case zzM => assumption); k_whole))
  k_with "M leaving ref" => (k_here; first
  | (refine' leave_newB ?zzk1 ?zzk0 ?zzk2 ?zzk3 ?zzkf ?zzkk ?_; (case zzk0 => assumption); (case zzk1 => assumption); (case zzk2 => assumption); (case zzk3 => k_asm); (case zzkf => rfl); (case zzkk => rfl); k_whole; intro h'w R'w U'w; (try dsimp only at R'w U'w ⊢))
  | (refine' leave_onB ?zzk1 ?zzk2 ?zzk3 ?zzk4 ?zzkf ?_; (case zzk3 => assumption); (case zzk1 => assumption); (case zzk4 => assumption); (case zzk2 => assumption); (case zzkf => rfl); k_whole; intro h'w R'w U'w; (try dsimp only at R'w U'w ⊢)))
  k_with "M getAttr ref" => (k_here; k_dflt (refine' get_own ?zzk1 ?zzk2 ?zzk3 ?zzk4 ?zzk5 ?zzk6 ?zzk7 ?zzk8 ?zzk9 ?_; (case zzk1 => k_asm); (case zzk2 => k_asm); (case zzk3 => k_inst); (case zzk4 => k_is); (case zzk5 => k_is); (case zzk6 => k_is); (case zzk7 => k_is); (case zzk8 => assumption); (case zzk9 => k_handed); k_whole))
  k_with "M eval Name" => (k_here; kc_free; k_dflt (refine' nameX_F ?zzN ?zzc ?zzm ?zzd ?_ ?zza ?zzb; (case zza => rfl); (case zzb => rfl); (case zzN => k_asm); (case zzc => rfl); (case zzm => k_mem); (case zzd => assumption); k_whole))
  k_with "M compareOp In int ref" => (k_here; k_dflt (refine kda_in (knd := PySem.intKind _ _) (by k_asm) (by k_mem) (by k_asm) (by k_asm) (intKind_is _ _ _ _) false (not_three (by omega) (by omega) (by omega)) ?_))
  k_with "M compareOp NotIn int ref" => (k_here; k_dflt (refine kdg_notin (knd := PySem.intKind _ _) (by k_asm) (by k_mem) (by k_asm) (by k_asm) (intKind_is _ _ _ _) false (not_three (by omega) (by omega) (by omega)) ?_))
  k_with "M exec For Name Attribute cons nil" => (k_here; (rename Fr _ _ _ _ => lF'w); (with_unfolding_all refine' For_turns lF'w ?_; k_whole))
  k_with "M pyIter ref" => (k_here; (with_reducible show wpAny _ _ (pyIter (Value.ref _)) (fun it s₂ => TurnsAt _ _ _ _ _ _ _ _ _ it s₂) _ _); (rename Fr _ _ _ _ => lF'w); (rename News _ _ _ _ => lN'w); (with_unfolding_all first
  | refine kta_keys (knd := PySem.intKind _ _) (enc := PyData.int) (xs := [Itm.tok (fun t => Value.int 1 t), Itm.tok (fun t => Value.int 2 t), Itm.tok (fun t => Value.int 3 t)]) (by rfl) lF'w lN'w (by k_mem) (by k_asm) (by k_asm) (fun _ _ h => Value.isInt_shape h) (by rfl) ?_
  | refine kta_keys (knd := PySem.intKind _ _) (enc := PyData.int) (xs := [Itm.tok (fun t => Value.int 1 t), Itm.tok (fun t => Value.int 2 t)]) (by rfl) lF'w lN'w (by k_mem) (by k_asm) (by k_asm) (fun _ _ h => Value.isInt_shape h) (by rfl) ?_
  | refine kta_keys (knd := PySem.intKind _ _) (enc := PyData.int) (xs := [Itm.tok (fun t => Value.int 1 t)]) (by rfl) lF'w lN'w (by k_mem) (by k_asm) (by k_asm) (fun _ _ h => Value.isInt_shape h) (by rfl) ?_
  | refine kta_keys (knd := PySem.intKind _ _) (enc := PyData.int) (xs := []) (by rfl) lF'w lN'w (by k_mem) (by k_asm) (by k_asm) (fun _ _ h => Value.isInt_shape h) (by rfl) ?_); clear lF'w lN'w; intro i'w l1'w; (try k_lt l1'w))
  k_with "M And" => (k_here; (exact ⟨by first | rfl | exact decide_eq_false (by omega), _, rfl⟩))
  k_with "M exec For Tuple Call cons nil" => (k_here; (rename Fr _ _ _ _ => lF'w); (with_unfolding_all refine' For_turns lF'w ?_; k_whole))
  k_with "M kts_caught" => first | exact PutAt.same (by assumption) | assumption | (refine Eq.trans (PutAt.other (by assumption) _ (by decide)) ?_; k_extra "M kts_caught")
  k_with "M getAttr ref" => (k_here; k_dflt (refine' get_own ?zzk1 ?zzk2 ?zzk3 ?zzk4 ?zzk5 ?zzk6 ?zzk7 ?zzk8 ?zzk9 ?_; (case zzk1 => k_asm); (case zzk2 => k_asm); (case zzk3 => k_inst); (case zzk4 => k_is); (case zzk5 => k_is); (case zzk6 => k_is); (case zzk7 => k_is); (case zzk8 => kts_caught); (case zzk9 => k_handed); k_whole))
  k_with "M setAttr ref" => (k_here; k_dflt (refine' set_abs ?zzk1 ?zzk2 ?zzk3 ?zzk4 ?zzk5 ?zzk6 ?zzk7 ?zzk8 ?zzk9 ?zzk10 ?zzk12 ?zzk13 ?_; (case zzk1 => k_asm); (case zzk2 => k_asm); (case zzk3 => k_asm); (case zzk4 => k_inst); (case zzk5 => exact rfl); (case zzk6 => k_is); (case zzk7 => k_is); (case zzk8 => k_is); (case zzk9 => k_is); (case zzk10 => kts_caught); (case zzk12 => k_updF); (case zzk13 => assumption); k_whole); intro h'w es'w n'w F'w N'w P'w z'w; (try dsimp only at N'w))
  k_with "M compareOp In str ref" => (k_here; k_dflt (refine' in_code ?zzN ?zzm ?zzi ?zzc ?_; (case zzN => k_asm); (case zzm => k_mem); (case zzc => assumption); (case zzi => exact strs_split (by assumption) (by assumption))))
  k_with "M call builtin:list.index" => (k_here; k_dflt (refine' index_code ?zzN ?zzm ?zzi ?zzc ?_; (case zzN => k_asm); (case zzm => k_mem); (case zzc => assumption); (case zzi => exact strs_split (by assumption) (by assumption))))
  k_with "M subscriptTail" => (k_here; (with_reducible show wpAny _ _ (subscriptTail _ _ (Value.ref _) (Value.int _ _)) _ _ _); k_dflt (refine' item_code ?zzN ?zzm ?zzi ?zzc ?zze ?_; (case zzN => k_asm); (case zzm => k_mem); (case zzc => assumption); (case zze => first | rfl | omega); (case zzi => exact strs_split (by assumption) (by assumption))); intro t'w)
  k_with "M call builtin:len" => (k_here; k_dflt (refine' len_code ?zzN ?zzm ?zzi ?_; (case zzN => k_asm); (case zzm => k_mem); (case zzi => exact strs_split (by assumption) (by assumption))))
  k_with "M eval Name" => (k_here; k_dflt (refine' nameX_C ?zzN ?zzc ?zzm ?zzd ?_ ?zza ?zzb; (case zza => rfl); (case zzb => rfl); (case zzN => k_asm); (case zzc => rfl); (case zzm => k_mem); (case zzd => assumption); k_whole))
  k_with "M eval Name" => (k_here; k_dflt (refine' nameX_L ?zzF ?zzv ?_ ?zza ?zzb; (case zza => first | rfl | assumption); (case zzb => rfl); (case zzF => k_asm); (case zzv => first | rfl | (with_unfolding_all assumption)); k_whole))
  k_with "M getMethod ref" => (k_here; (with_reducible show wpAny _ _ (getMethod (Value.ref _) (Str.ofString "get") _) _ _ _); k_dflt (refine kdg_method (knd := PySem.intKind _ _) (by k_asm) (by k_mem) (by k_asm) ?_))
  k_with "M call builtin:dict.get" => (k_here; k_dflt (refine' known_get ?zzN ?zzp ?zzd ?zzl ?zzv ?zzc ?_; (case zzN => k_asm); (case zzp => k_mem); (case zzd => assumption); (case zzl => assumption); (case zzv => assumption); (case zzc => assumption)); intro t'w)
  k_with "M setItem ref int" => (k_here; k_dflt (refine' kda_set (knd := PySem.intKind _ _) ?zzF ?zzN ?zzU ?zzd (intKind_is _ _ _ _) ?zzz ?_; (case zzF => k_asm); (case zzN => k_asm); (case zzU => k_updF); (case zzd => assumption); (case zzz => exact Nat.le_trans (by assumption) (by rw [sizeLine_eq]; decide))); intro h'w o'w F'w N'w hd'w; (try dsimp only at N'w))
  k_with "M call ref" => (k_here; (with_reducible show wpAny _ _ (call (Value.ref 220) _) _ _ _); k_dflt (refine' error_number_K ?zzB ?zzF ?zzX ?zzT rfl ?zzhk ?zzN ?zzmW ?zzmdW ?zzgE ?zzc ?_; (case zzB => assumption); (case zzF => k_asm); (case zzX => k_asm); (case zzT => k_asm); (case zzhk => first | rfl | assumption); (case zzN => k_asm); (case zzmW => k_mem); (case zzmdW => k_mem); (case zzgE => kts_caught); (case zzc => assumption); k_whole); intro h'w tk'w t'w F'w N'w)
  k_with "M call ref" => ((with_reducible show wpAny _ _ (call (Value.ref 411) _) _ _ _); refine held ?_)
  k_with "M k_ne" => ((try dsimp only); first | assumption | (refine Ne.symm ?_; assumption))
  trivial

theorem turn_first {w : World} {sc : Scope} {tgt iter : Expr} {body : List Stmt} {fpos : Pos} {h₀ : Heap} {L a : Addr} {cN cW cK I W dW C dC K dO dF dA PL T0 f : Addr} {m mg mb : Str → Option Value} {p : Program} {loose : List Str} {mean : ExcName → Option Value} {s : Shared} {Q : Flow → Shared → Prop} {E : Value → Shared → Prop}
  {oI oN oW oKc oK oT : Obj} {nt : Nat} {v0 : Option Value} {esW esC : List DictEntry} {nW nC : Nat} {kvs : List (Int × Value)} {rest : List (Addr × Obj)} {k : Int} {code : Str} {tc : Tok} {oc0 : Value} {od0 : Option Addr} {fd0 : FuncData} {sl0 : Array (Option Value)}
  (hfor : lawFor = some (tgt, iter, body, fpos)) (hsc : lawScope = some sc)
  (B : Below callerA h₀ [] h₀) (F : Fr h₀ L s.heap m) (X : (hd.heap_1_39 w.params).In h₀) (T : Top p loose mean mg mb h₀) (hP : CodeHd h₀ 434 432)
  (N : News h₀ L s.heap ((I, oI) :: (432, tabObj #[]) :: (cN, oN) :: (cW, oW) :: (cK, oKc) :: (W, instObj 386 dW) :: (dW, dictOf esW nW) :: (C, instObj 138 dC) :: (dC, dictOf esC nC) :: (K, oK) :: rest))
  (hmC : m "control" = some (.ref C))
  (hoW : oW.data = .cell (some (.ref W))) (hoN : oN.data = .cell v0) (hoK : oKc.data = .cell (some (.ref K)))
  (hK : oK.IsDictOf (PySem.intKind RW.row.prog w) kvs) (loK : (K == sysModules) = false) (hkv : KV kvs) (hkl : kvs.length ≤ 1000)
  (hT : (T0, oT) ∈ rest) (hTc : oT.cls = .type "tuple") (hTd : oT.data = .seq #[.str code tc, .ref f] nt)
  (hck : IsCode k code) (hw : WF dO dF dA esW) (hc : CF PL esC) (hitem : ItemOK w W dW C dC dO dF dA PL rest f code) (hfo : (f, (⟨oc0, od0, .func fd0, sl0⟩ : Obj)) ∈ rest)
  (hoff : OwnOff rest [I, 432, cN, cW, cK, W, dW, C, dC, K]) (hnd : ([I, 432, cN, cW, cK, W, dW, C, dC, K] : List Addr).Nodup)
  (hQ : ∀ h' tk m' c1 c2 oc1 oc2 vs1 vs2 u1 u2 oN' tn esW' nW' esC' nC' oK' tv, Fr h₀ L h' m' → (∀ y : Str, y ≠ ("work" : Str) → y ≠ ("code" : Str) → m' y = m y) → News h₀ L h' ((I, oI) :: (432, tab2 c1 c2) :: (c1, oc1) :: (c2, oc2) :: (cN, oN') :: (cW, oW) :: (cK, oKc) :: (W, instObj 386 dW) :: (dW, dictOf esW' nW') :: (C, instObj 138 dC) :: (dC, dictOf esC' nC') :: (K, oK') :: rest) →
    oN'.data = .cell (some (.int k tn)) → oc1.data = .fields vs1 → vs1[1]? = some (.str ((envX "law" sc L a (.ref 434) [("world", cW), ("number", cN), ("known", cK)]).qual ++ "<lambda>") u1) → oc2.data = .fields vs2 → vs2[1]? = some (.str ((envX "law" sc L a (.ref 434) [("world", cW), ("number", cN), ("known", cK)]).qual ++ "<lambda>") u2) → (∀ q ∈ ([I, 432, cN, cW, cK, W, dW, C, dC, K] : List Addr), q < c1) → (∀ q ∈ rest, q.1 < c1) → c1 < c2 → WF dO dF dA esW' → CF PL esC' → oK'.IsDictOf (PySem.intKind RW.row.prog w) (stored kvs k (.str code tv)) → Q .next { s with heap := h', toks := tk }) :
  wpAny (model RW.row.prog w) (callerA.deeper (envX "law" sc L a (.ref 434) [("world", cW), ("number", cN), ("known", cK)])) (assign tgt (envX "law" sc L a (.ref 434) [("world", cW), ("number", cN), ("known", cK)]) (.ref T0))
    (fun _ s₂ => wpAny (model RW.row.prog w) (callerA.deeper (envX "law" sc L a (.ref 434) [("world", cW), ("number", cN), ("known", cK)])) (execs body (envX "law" sc L a (.ref 434) [("world", cW), ("number", cN), ("known", cK)])) Q E s₂) E s := by
  have hlo := hck.lo
  have hhi := hck.hi
  refine hw.elim fun {nst tst tms vh ve vl} gO gF gA gS hst gM gI gH gE gL hlW => ?_
  refine hc.elim fun {vfa} gPL gFa hlC => ?_
  refine nodup_ne10 hnd ?_
  intro n0_1 n0_2 n0_3 n0_4 n0_5 n0_6 n0_7 n0_8 n0_9 n1_2 n1_3 n1_4 n1_5 n1_6 n1_7 n1_8 n1_9 n2_3 n2_4 n2_5 n2_6 n2_7 n2_8 n2_9 n3_4 n3_5 n3_6 n3_7 n3_8 n3_9 n4_5 n4_6 n4_7 n4_8 n4_9 n5_6 n5_7 n5_8 n5_9 n6_7 n6_8 n6_9 n7_8 n7_9 n8_9
  revert X; k_fill; intro X
  rw [show lawFor = some (_, _, _, _) from rfl] at hfor
  rw [show lawScope = some _ from rfl] at hsc
  cases hfor
  cases hsc
  have hTup : IsTup s.heap T0 #[.str code tc, .ref f] := ⟨oT, (N (T0, oT) (by repeat (first | exact hT | refine List.mem_cons_of_mem _ ?_))).1, hTc, nt, hTd⟩
  k_steps
  show wpAny _ _ (call (.ref 411) [.ref f]) _ _ _
  refine law_item hitem hw hc (by assumption) (by assumption) X T rfl (fun q hq => in_big hq) (FnAt.of (by assumption) (.tail _ (.tail _ (.tail _ (.tail _ (.tail _ (.tail _ (.tail _ (.tail _ (.tail _ (.tail _ (hfo)))))))))))) (by k_updF) (fun h' tk tc' esW' nW' hw' F' N2 => ?_)
  (try dsimp only at N2)
  refine hw'.elim fun {nst2 tst2 tms2 vh2 ve2 vl2} gO2 gF2 gA2 gS2 hst2 gM2 gI2 gH2 gE2 gL2 hlW2 => ?_
  clear gO gF gA gS gM gI gH gE gL hlW hTup
  k_sweep
  k_steps
  all_goals first | exact absurd ‹(code != code) = true› (by simp) | skip
  unfold Held
  refine' law_code (law_lam_0 rfl ?d1 ?d2 ?dN hck) ?F ?N X T rfl ?hsub ?hfn ?_
  case F => assumption
  case N => assumption
  case hsub => lcg_sub
  case d1 => assumption
  case d2 => assumption
  case dN => assumption
  case hfn => exact FnAt.of (by assumption) (by k_mem)
  intro h3 tk3 tc3 ls3 hp3 F3 hN3
  subst hp3
  have N3 := after_same (by assumption) (by lcg_sub) hN3
  clear hN3
  k_sweep
  k_steps
  all_goals first | exact absurd ‹(code != code) = true› (by simp) | skip
  unfold Held
  refine' law_code (law_lam_1 rfl ?d1 ?d2 ?dw ?gH ?gI ?gE ?len ?na ?nb ?nc ?nd) ?F ?N X T rfl ?hsub ?hfn ?_
  case F => assumption
  case N => assumption
  case hsub => lcg_sub
  case d1 => assumption
  case d2 => assumption
  case dw => assumption
  case gH => kts_caught
  case gI => kts_caught
  case gE => kts_caught
  case len => assumption
  case na => exact (show ¬ @Eq Addr _ _ by first | assumption | (refine Ne.symm ?_; assumption) | exact Nat.ne_of_gt (by omega))
  case nb => exact (show ¬ @Eq Addr _ _ by first | assumption | (refine Ne.symm ?_; assumption) | exact Nat.ne_of_gt (by omega))
  case nc => exact (show ¬ @Eq Addr _ _ by first | assumption | (refine Ne.symm ?_; assumption))
  case nd => exact (show ¬ @Eq Addr _ _ by first | assumption | (refine Ne.symm ?_; assumption))
  case hfn => exact FnAt.of (by assumption) (by k_mem)
  intro h4 tk4 tc4 ls4 hp4 F4 hN4
  obtain ⟨esW4, nW4, th4, P4, hlW4, rfl⟩ := hp4
  have N4 := after_work (esW' := esW4) (nW' := nW4) (by assumption) (by lcg_sub) hN4 (.inl (.tail _ (.tail _ (.tail _ (.tail _ (.head _)))))) (by
    intro q hq hn
    simp only [List.mem_cons, List.not_mem_nil, or_false] at hq
    rcases hq with rfl | rfl | rfl | rfl | rfl <;> first | exact absurd rfl hn | (repeat (first | exact .head _ | refine .tail _ ?_))) (by k_updF)
  (try dsimp only at N4)
  clear hN4
  k_sweep
  k_steps
  all_goals first | exact absurd ‹(code != code) = true› (by simp) | skip
  rename Fr h₀ L _ _ => F9
  rename News h₀ L _ _ => N9
  refine' hQ _ _ _ _ _ _ _ _ _ _ _ _ _ _ _ _ _ _ _ F9 ?fm (pickN N9 ?fN) ?foN ?a1 ?a2 ?a3 ?a4 ?a5 ?a6 ?a7 ?fW ?fC ?fK
  case fm => intro y h1 h2; simp only [h1, h2, if_false]
  case fN =>
    iterate 12 (refine List.forall_mem_cons.mpr ⟨by k_mem, ?_⟩)
    intro q hq
    repeat (first | exact hq | refine List.mem_cons_of_mem _ ?_)
  case fK => assumption
  case foN => assumption
  case fW => exact ⟨by kts_caught, by kts_caught, by kts_caught, ⟨_, _, by kts_caught, by assumption⟩, ⟨_, by kts_caught⟩, by kts_caught, ⟨_, by kts_caught⟩, ⟨_, by kts_caught⟩, ⟨_, by kts_caught⟩, by assumption⟩
  case fC => exact ⟨by kts_caught, ⟨_, by kts_caught⟩, by assumption⟩
  case a1 => assumption
  case a2 => assumption
  case a3 => assumption
  case a4 => assumption
  case a5 =>
    (rename (_ ∧ _ ∧ _ ∧ _ ∧ _ ∧ _ ∧ _ ∧ _ ∧ _ ∧ _ ∧ _ ∧ _ ∧ AllLt _ rest) => l9)
    repeat (first | exact List.forall_mem_nil _ | refine List.forall_mem_cons.mpr ⟨by first | exact l9.1 | exact l9.2.1 | exact l9.2.2.1 | exact l9.2.2.2.1 | exact l9.2.2.2.2.1 | exact l9.2.2.2.2.2.1 | exact l9.2.2.2.2.2.2.1 | exact l9.2.2.2.2.2.2.2.1 | exact l9.2.2.2.2.2.2.2.2.1 | exact l9.2.2.2.2.2.2.2.2.2.1 | exact l9.2.2.2.2.2.2.2.2.2.2.1 | exact l9.2.2.2.2.2.2.2.2.2.2.2.1, ?_⟩)
  case a6 => (rename (_ ∧ _ ∧ _ ∧ _ ∧ _ ∧ _ ∧ _ ∧ _ ∧ _ ∧ _ ∧ _ ∧ _ ∧ AllLt _ rest) => l9); exact ktn_ltOf l9.2.2.2.2.2.2.2.2.2.2.2.2
  case a7 => (show @LT.lt Nat _ _ _; omega)
end
section
open PySem.Calls PySem.Spec PyProof.Rows.LCg
theorem w_V_t2_0 : True := by
  k_with_none
  k_with "M k_room" => ((try simp only [depth_mark, depth_under_make, depth_under_kw, depth_in1, depth_deeper]); exact Nat.lt_of_lt_of_le (m := 900) (by decide) (by decide))
  k_with "M exec Raise some none" => (k_here; (with_reducible show wpAny _ _ (exec (Stmt.Raise (some (Expr.Call (Expr.Name ("BasicError" : Str) _) _ [] _)) none _) _) _ _ _); k_dflt (refine' raise_K ?zzF ?zzX ?zzh ?_; (case zzF => k_asm); (case zzX => k_asm); (case zzh => first | rfl | assumption); k_whole))
  k_with "M call ref" => (k_here; k_dflt (refine wpAny_call ?_; refine' code_defC ?zzk1 ?zzk2 ?zzk3 ?zzk4 ?zzk5 ?zzkA ?zzkF ?zzkK ?zzk6 ?zzk7 ?zzk8 ?zzk9 ?zzkB ?zzkD ?_ ?zzc2 ?zzc3 ?zzc4; (case zzkA => exact Around.frames_deeper (Below.stack (by assumption))); (case zzkF => exact rfl); (case zzkK => exact rfl); (case zzk1 => k_asm); (case zzk2 => k_asm); (case zzk3 => k_asm); (case zzk4 => k_asm); (case zzk5 => k_asm); (case zzk6 => k_is); (case zzk7 => k_is); (case zzk8 => k_room); (case zzk9 => first | exact BindsTo.of_eq rfl | exact binds_K (by k_in) rfl (by k_is) rfl rfl rfl | fail "k_enter: no rule for these arguments"); (case zzkB => exact rfl); (case zzkD => decide +kernel); (case zzc2 => exact rfl); (case zzc3 => exact rfl); (case zzc4 => exact rfl); k_whole; intro g'w L'w h'w tk'w cells'w FG'w F'w N'w Y'w B'w X'w T'w l1'w; (try k_lt l1'w); k_cells Y'w; (try simp only [List.cons_append, List.nil_append] at N'w); (try dsimp only); (try k_lift B'w); (try k_fold)))
  k_with "M call ref" => (k_here; k_dflt (refine wpAny_call ?_; refine' code_def ?zzk1 ?zzk2 ?zzk3 ?zzk4 ?zzk5 ?zzkA ?zzkF ?zzkK ?zzk6 ?zzk7 ?zzk8 ?zzk9 ?zzkB ?_ ?zzc2 ?zzc3 ?zzc4 ?zzc5; (case zzkA => exact Around.frames_deeper (Below.stack (by assumption))); (case zzkF => exact rfl); (case zzkK => exact rfl); (case zzk1 => k_asm); (case zzk2 => k_asm); (case zzk3 => k_asm); (case zzk4 => k_asm); (case zzk5 => k_asm); (case zzk6 => k_is); (case zzk7 => k_is); (case zzk8 => k_room); (case zzk9 => first | exact BindsTo.of_eq rfl | exact binds_K (by k_in) rfl (by k_is) rfl rfl rfl | fail "k_enter: no rule for these arguments"); (case zzc5 => decide); (case zzkB => exact locs rfl); (case zzc2 => exact rfl); (case zzc3 => exact rfl); (case zzc4 => exact rfl); k_whole; intro g'w L'w h'w FG'w F'w N'w B'w X'w T'w; (try dsimp only); (try k_lift B'w); (try k_fold)))
  k_with "M call ref" => (k_here; (with_reducible show wpAny _ _ (call (Value.ref 34) _) _ _ _); k_dflt (refine' bx_make ?zzF ?zzX ?zzT ?zzr ?zzl ?_; (case zzF => k_asm); (case zzX => k_asm); (case zzT => k_asm); (case zzr => k_room); (case zzl => first | exact Nat.zero_le _ | exact Nat.le_refl _); k_whole); intro h'w tk'w e'w dx'w mb'w)
  k_with "M RaisesB" => (k_dflt (refine' raisesB_K ?zzF ?zzM ?_; (case zzF => k_asm); (case zzM => assumption); k_whole))
  k_with "M leaving ref" => (k_here; first
  | (refine' leave_newB ?zzk1 ?zzk0 ?zzk2 ?zzk3 ?zzkf ?zzkk ?_; (case zzk0 => assumption); (case zzk1 => assumption); (case zzk2 => assumption); (case zzk3 => k_asm); (case zzkf => rfl); (case zzkk => rfl); k_whole; intro h'w R'w U'w; (try dsimp only at R'w U'w ⊢))
  | (refine' leave_onB ?zzk1 ?zzk2 ?zzk3 ?zzk4 ?zzkf ?_; (case zzk3 => assumption); (case zzk1 => assumption); (case zzk4 => assumption); (case zzk2 => assumption); (case zzkf => rfl); k_whole; intro h'w R'w U'w; (try dsimp only at R'w U'w ⊢)))
  k_with "M getAttr ref" => (k_here; k_dflt (refine' get_own ?zzk1 ?zzk2 ?zzk3 ?zzk4 ?zzk5 ?zzk6 ?zzk7 ?zzk8 ?zzk9 ?_; (case zzk1 => k_asm); (case zzk2 => k_asm); (case zzk3 => k_inst); (case zzk4 => k_is); (case zzk5 => k_is); (case zzk6 => k_is); (case zzk7 => k_is); (case zzk8 => assumption); (case zzk9 => k_handed); k_whole))
  k_with "M eval Name" => (k_here; kc_free; k_dflt (refine' nameX_F ?zzN ?zzc ?zzm ?zzd ?_ ?zza ?zzb; (case zza => rfl); (case zzb => rfl); (case zzN => k_asm); (case zzc => rfl); (case zzm => k_mem); (case zzd => assumption); k_whole))
  k_with "M compareOp In int ref" => (k_here; k_dflt (refine kda_in (knd := PySem.intKind _ _) (by k_asm) (by k_mem) (by k_asm) (by k_asm) (intKind_is _ _ _ _) false (not_three (by omega) (by omega) (by omega)) ?_))
  k_with "M compareOp NotIn int ref" => (k_here; k_dflt (refine kdg_notin (knd := PySem.intKind _ _) (by k_asm) (by k_mem) (by k_asm) (by k_asm) (intKind_is _ _ _ _) false (not_three (by omega) (by omega) (by omega)) ?_))
  k_with "M exec For Name Attribute cons nil" => (k_here; (rename Fr _ _ _ _ => lF'w); (with_unfolding_all refine' For_turns lF'w ?_; k_whole))
  k_with "M pyIter ref" => (k_here; (with_reducible show wpAny _ _ (pyIter (Value.ref _)) (fun it s₂ => TurnsAt _ _ _ _ _ _ _ _ _ it s₂) _ _); (rename Fr _ _ _ _ => lF'w); (rename News _ _ _ _ => lN'w); (with_unfolding_all first
  | refine kta_keys (knd := PySem.intKind _ _) (enc := PyData.int) (xs := [Itm.tok (fun t => Value.int 1 t), Itm.tok (fun t => Value.int 2 t), Itm.tok (fun t => Value.int 3 t)]) (by rfl) lF'w lN'w (by k_mem) (by k_asm) (by k_asm) (fun _ _ h => Value.isInt_shape h) (by rfl) ?_
  | refine kta_keys (knd := PySem.intKind _ _) (enc := PyData.int) (xs := [Itm.tok (fun t => Value.int 1 t), Itm.tok (fun t => Value.int 2 t)]) (by rfl) lF'w lN'w (by k_mem) (by k_asm) (by k_asm) (fun _ _ h => Value.isInt_shape h) (by rfl) ?_
  | refine kta_keys (knd := PySem.intKind _ _) (enc := PyData.int) (xs := [Itm.tok (fun t => Value.int 1 t)]) (by rfl) lF'w lN'w (by k_mem) (by k_asm) (by k_asm) (fun _ _ h => Value.isInt_shape h) (by rfl) ?_
  | refine kta_keys (knd := PySem.intKind _ _) (enc := PyData.int) (xs := []) (by rfl) lF'w lN'w (by k_mem) (by k_asm) (by k_asm) (fun _ _ h => Value.isInt_shape h) (by rfl) ?_); clear lF'w lN'w; intro i'w l1'w; (try k_lt l1'w))
  k_with "M And" => (k_here; (exact ⟨by first | rfl | exact decide_eq_false (by omega), _, rfl⟩))
  k_with "M exec For Tuple Call cons nil" => (k_here; (rename Fr _ _ _ _ => lF'w); (with_unfolding_all refine' For_turns lF'w ?_; k_whole))
  k_with "M kts_caught" => first | exact PutAt.same (by assumption) | assumption | (refine Eq.trans (PutAt.other (by assumption) _ (by decide)) ?_; k_extra "M kts_caught")
  k_with "M getAttr ref" => (k_here; k_dflt (refine' get_own ?zzk1 ?zzk2 ?zzk3 ?zzk4 ?zzk5 ?zzk6 ?zzk7 ?zzk8 ?zzk9 ?_; (case zzk1 => k_asm); (case zzk2 => k_asm); (case zzk3 => k_inst); (case zzk4 => k_is); (case zzk5 => k_is); (case zzk6 => k_is); (case zzk7 => k_is); (case zzk8 => kts_caught); (case zzk9 => k_handed); k_whole))
  k_with "M setAttr ref" => (k_here; k_dflt (refine' set_abs ?zzk1 ?zzk2 ?zzk3 ?zzk4 ?zzk5 ?zzk6 ?zzk7 ?zzk8 ?zzk9 ?zzk10 ?zzk12 ?zzk13 ?_; (case zzk1 => k_asm); (case zzk2 => k_asm); (case zzk3 => k_asm); (case zzk4 => k_inst); (case zzk5 => exact rfl); (case zzk6 => k_is); (case zzk7 => k_is); (case zzk8 => k_is); (case zzk9 => k_is); (case zzk10 => kts_caught); (case zzk12 => k_updF); (case zzk13 => assumption); k_whole); intro h'w es'w n'w F'w N'w P'w z'w; (try dsimp only at N'w))
  k_with "M compareOp In str ref" => (k_here; k_dflt (refine' in_code ?zzN ?zzm ?zzi ?zzc ?_; (case zzN => k_asm); (case zzm => k_mem); (case zzc => assumption); (case zzi => exact strs_split (by assumption) (by assumption))))
  k_with "M call builtin:list.index" => (k_here; k_dflt (refine' index_code ?zzN ?zzm ?zzi ?zzc ?_; (case zzN => k_asm); (case zzm => k_mem); (case zzc => assumption); (case zzi => exact strs_split (by assumption) (by assumption))))
  k_with "M subscriptTail" => (k_here; (with_reducible show wpAny _ _ (subscriptTail _ _ (Value.ref _) (Value.int _ _)) _ _ _); k_dflt (refine' item_code ?zzN ?zzm ?zzi ?zzc ?zze ?_; (case zzN => k_asm); (case zzm => k_mem); (case zzc => assumption); (case zze => first | rfl | omega); (case zzi => exact strs_split (by assumption) (by assumption))); intro t'w)
  k_with "M call builtin:len" => (k_here; k_dflt (refine' len_code ?zzN ?zzm ?zzi ?_; (case zzN => k_asm); (case zzm => k_mem); (case zzi => exact strs_split (by assumption) (by assumption))))
  k_with "M eval Name" => (k_here; k_dflt (refine' nameX_C ?zzN ?zzc ?zzm ?zzd ?_ ?zza ?zzb; (case zza => rfl); (case zzb => rfl); (case zzN => k_asm); (case zzc => rfl); (case zzm => k_mem); (case zzd => assumption); k_whole))
  k_with "M eval Name" => (k_here; k_dflt (refine' nameX_L ?zzF ?zzv ?_ ?zza ?zzb; (case zza => first | rfl | assumption); (case zzb => rfl); (case zzF => k_asm); (case zzv => first | rfl | (with_unfolding_all assumption)); k_whole))
  k_with "M getMethod ref" => (k_here; (with_reducible show wpAny _ _ (getMethod (Value.ref _) (Str.ofString "get") _) _ _ _); k_dflt (refine kdg_method (knd := PySem.intKind _ _) (by k_asm) (by k_mem) (by k_asm) ?_))
  k_with "M call builtin:dict.get" => (k_here; k_dflt (refine' known_get ?zzN ?zzp ?zzd ?zzl ?zzv ?zzc ?_; (case zzN => k_asm); (case zzp => k_mem); (case zzd => assumption); (case zzl => assumption); (case zzv => assumption); (case zzc => assumption)); intro t'w)
  k_with "M setItem ref int" => (k_here; k_dflt (refine' kda_set (knd := PySem.intKind _ _) ?zzF ?zzN ?zzU ?zzd (intKind_is _ _ _ _) ?zzz ?_; (case zzF => k_asm); (case zzN => k_asm); (case zzU => k_updF); (case zzd => assumption); (case zzz => exact Nat.le_trans (by assumption) (by rw [sizeLine_eq]; decide))); intro h'w o'w F'w N'w hd'w; (try dsimp only at N'w))
  k_with "M call ref" => (k_here; (with_reducible show wpAny _ _ (call (Value.ref 220) _) _ _ _); k_dflt (refine' error_number_K ?zzB ?zzF ?zzX ?zzT rfl ?zzhk ?zzN ?zzmW ?zzmdW ?zzgE ?zzc ?_; (case zzB => assumption); (case zzF => k_asm); (case zzX => k_asm); (case zzT => k_asm); (case zzhk => first | rfl | assumption); (case zzN => k_asm); (case zzmW => k_mem); (case zzmdW => k_mem); (case zzgE => kts_caught); (case zzc => assumption); k_whole); intro h'w tk'w t'w F'w N'w)
  k_with "M call ref" => ((with_reducible show wpAny _ _ (call (Value.ref 411) _) _ _ _); refine held ?_)
  k_with "M k_ne" => ((try dsimp only); first | assumption | (refine Ne.symm ?_; assumption))
  trivial

theorem turn_later {w : World} {sc : Scope} {tgt iter : Expr} {body : List Stmt} {fpos : Pos} {h₀ : Heap} {L a : Addr} {cN cW cK I W dW C dC K dO dF dA PL T0 f : Addr} {m mg mb : Str → Option Value} {p : Program} {loose : List Str} {mean : ExcName → Option Value} {s : Shared} {Q : Flow → Shared → Prop} {E : Value → Shared → Prop}
  {oI oN oW oKc oK oT : Obj} {nt : Nat} {v0 : Option Value} {esW esC : List DictEntry} {nW nC : Nat} {kvs : List (Int × Value)} {rest : List (Addr × Obj)} {k : Int} {code : Str} {tc : Tok} {oc0 : Value} {od0 : Option Addr} {fd0 : FuncData} {sl0 : Array (Option Value)} {c1 c2 : Addr} {oc1 oc2 : Obj} {vs1 vs2 : Array Value} {u1 u2 : Tok}
  (hfor : lawFor = some (tgt, iter, body, fpos)) (hsc : lawScope = some sc)
  (B : Below callerA h₀ [] h₀) (F : Fr h₀ L s.heap m) (X : (hd.heap_1_39 w.params).In h₀) (T : Top p loose mean mg mb h₀) (hP : CodeHd h₀ 434 432)
  (N : News h₀ L s.heap ((I, oI) :: (432, tab2 c1 c2) :: (c1, oc1) :: (c2, oc2) :: (cN, oN) :: (cW, oW) :: (cK, oKc) :: (W, instObj 386 dW) :: (dW, dictOf esW nW) :: (C, instObj 138 dC) :: (dC, dictOf esC nC) :: (K, oK) :: rest))
  (hmC : m "control" = some (.ref C))
  (hoc1 : oc1.data = .fields vs1) (hvs1 : vs1[1]? = some (.str ((envX "law" sc L a (.ref 434) [("world", cW), ("number", cN), ("known", cK)]).qual ++ "<lambda>") u1)) (hoc2 : oc2.data = .fields vs2) (hvs2 : vs2[1]? = some (.str ((envX "law" sc L a (.ref 434) [("world", cW), ("number", cN), ("known", cK)]).qual ++ "<lambda>") u2))
  (hoW : oW.data = .cell (some (.ref W))) (hoN : oN.data = .cell v0) (hoK : oKc.data = .cell (some (.ref K)))
  (hK : oK.IsDictOf (PySem.intKind RW.row.prog w) kvs) (loK : (K == sysModules) = false) (hkv : KV kvs) (hkl : kvs.length ≤ 1000)
  (hT : (T0, oT) ∈ rest) (hTc : oT.cls = .type "tuple") (hTd : oT.data = .seq #[.str code tc, .ref f] nt)
  (hck : IsCode k code) (hw : WF dO dF dA esW) (hc : CF PL esC) (hitem : ItemOK w W dW C dC dO dF dA PL rest f code) (hfo : (f, (⟨oc0, od0, .func fd0, sl0⟩ : Obj)) ∈ rest)
  (hoff : OwnOff rest [I, 432, c1, c2, cN, cW, cK, W, dW, C, dC, K]) (hnd : ([I, 432, c1, c2, cN, cW, cK, W, dW, C, dC, K] : List Addr).Nodup)
  (hQ : ∀ h' tk m' oN' tn esW' nW' esC' nC' oK' tv, Fr h₀ L h' m' → (∀ y : Str, y ≠ ("work" : Str) → y ≠ ("code" : Str) → m' y = m y) → News h₀ L h' ((I, oI) :: (432, tab2 c1 c2) :: (c1, oc1) :: (c2, oc2) :: (cN, oN') :: (cW, oW) :: (cK, oKc) :: (W, instObj 386 dW) :: (dW, dictOf esW' nW') :: (C, instObj 138 dC) :: (dC, dictOf esC' nC') :: (K, oK') :: rest) →
    oN'.data = .cell (some (.int k tn)) → WF dO dF dA esW' → CF PL esC' → oK'.IsDictOf (PySem.intKind RW.row.prog w) (stored kvs k (.str code tv)) → Q .next { s with heap := h', toks := tk }) :
  wpAny (model RW.row.prog w) (callerA.deeper (envX "law" sc L a (.ref 434) [("world", cW), ("number", cN), ("known", cK)])) (assign tgt (envX "law" sc L a (.ref 434) [("world", cW), ("number", cN), ("known", cK)]) (.ref T0))
    (fun _ s₂ => wpAny (model RW.row.prog w) (callerA.deeper (envX "law" sc L a (.ref 434) [("world", cW), ("number", cN), ("known", cK)])) (execs body (envX "law" sc L a (.ref 434) [("world", cW), ("number", cN), ("known", cK)])) Q E s₂) E s := by
  have hlo := hck.lo
  have hhi := hck.hi
  refine hw.elim fun {nst tst tms vh ve vl} gO gF gA gS hst gM gI gH gE gL hlW => ?_
  refine hc.elim fun {vfa} gPL gFa hlC => ?_
  refine nodup_ne12 hnd ?_
  intro n0_1 n0_2 n0_3 n0_4 n0_5 n0_6 n0_7 n0_8 n0_9 n0_10 n0_11 n1_2 n1_3 n1_4 n1_5 n1_6 n1_7 n1_8 n1_9 n1_10 n1_11 n2_3 n2_4 n2_5 n2_6 n2_7 n2_8 n2_9 n2_10 n2_11 n3_4 n3_5 n3_6 n3_7 n3_8 n3_9 n3_10 n3_11 n4_5 n4_6 n4_7 n4_8 n4_9 n4_10 n4_11 n5_6 n5_7 n5_8 n5_9 n5_10 n5_11 n6_7 n6_8 n6_9 n6_10 n6_11 n7_8 n7_9 n7_10 n7_11 n8_9 n8_10 n8_11 n9_10 n9_11 n10_11
  revert X; k_fill; intro X
  rw [show lawFor = some (_, _, _, _) from rfl] at hfor
  rw [show lawScope = some _ from rfl] at hsc
  cases hfor
  cases hsc
  have hTup : IsTup s.heap T0 #[.str code tc, .ref f] := ⟨oT, (N (T0, oT) (by repeat (first | exact hT | refine List.mem_cons_of_mem _ ?_))).1, hTc, nt, hTd⟩
  k_steps
  show wpAny _ _ (call (.ref 411) [.ref f]) _ _ _
  refine law_item hitem hw hc (by assumption) (by assumption) X T rfl (fun q hq => in_big2 hq) (FnAt.of (by assumption) (.tail _ (.tail _ (.tail _ (.tail _ (.tail _ (.tail _ (.tail _ (.tail _ (.tail _ (.tail _ (.tail _ (.tail _ (hfo)))))))))))))) (by k_updF) (fun h' tk tc' esW' nW' hw' F' N2 => ?_)
  (try dsimp only at N2)
  refine hw'.elim fun {nst2 tst2 tms2 vh2 ve2 vl2} gO2 gF2 gA2 gS2 hst2 gM2 gI2 gH2 gE2 gL2 hlW2 => ?_
  clear gO gF gA gS gM gI gH gE gL hlW hTup
  k_sweep
  k_steps
  all_goals first | exact absurd ‹(code != code) = true› (by simp) | skip
  unfold Held
  refine' law_code (law_lam_0 rfl ?d1 ?d2 ?dN hck) ?F ?N X T rfl ?hsub ?hfn ?_
  case F => assumption
  case N => assumption
  case hsub => lcg_sub
  case d1 => assumption
  case d2 => assumption
  case dN => assumption
  case hfn => exact FnAt.of (by assumption) (by k_mem)
  intro h3 tk3 tc3 ls3 hp3 F3 hN3
  subst hp3
  have N3 := after_same (by assumption) (by lcg_sub) hN3
  clear hN3
  k_sweep
  k_steps
  all_goals first | exact absurd ‹(code != code) = true› (by simp) | skip
  unfold Held
  refine' law_code (law_lam_1 rfl ?d1 ?d2 ?dw ?gH ?gI ?gE ?len ?na ?nb ?nc ?nd) ?F ?N X T rfl ?hsub ?hfn ?_
  case F => assumption
  case N => assumption
  case hsub => lcg_sub
  case d1 => assumption
  case d2 => assumption
  case dw => assumption
  case gH => kts_caught
  case gI => kts_caught
  case gE => kts_caught
  case len => assumption
  case na => exact (show ¬ @Eq Addr _ _ by first | assumption | (refine Ne.symm ?_; assumption) | exact Nat.ne_of_gt (by omega))
  case nb => exact (show ¬ @Eq Addr _ _ by first | assumption | (refine Ne.symm ?_; assumption) | exact Nat.ne_of_gt (by omega))
  case nc => exact (show ¬ @Eq Addr _ _ by first | assumption | (refine Ne.symm ?_; assumption))
  case nd => exact (show ¬ @Eq Addr _ _ by first | assumption | (refine Ne.symm ?_; assumption))
  case hfn => exact FnAt.of (by assumption) (by k_mem)
  intro h4 tk4 tc4 ls4 hp4 F4 hN4
  obtain ⟨esW4, nW4, th4, P4, hlW4, rfl⟩ := hp4
  have N4 := after_work (esW' := esW4) (nW' := nW4) (by assumption) (by lcg_sub) hN4 (.inl (.tail _ (.tail _ (.tail _ (.tail _ (.head _)))))) (by
    intro q hq hn
    simp only [List.mem_cons, List.not_mem_nil, or_false] at hq
    rcases hq with rfl | rfl | rfl | rfl | rfl <;> first | exact absurd rfl hn | (repeat (first | exact .head _ | refine .tail _ ?_))) (by k_updF)
  (try dsimp only at N4)
  clear hN4
  k_sweep
  k_steps
  all_goals first | exact absurd ‹(code != code) = true› (by simp) | skip
  rename Fr h₀ L _ _ => F9
  rename News h₀ L _ _ => N9
  refine' hQ _ _ _ _ _ _ _ _ _ _ _ F9 ?fm (pickN N9 ?fN) ?foN ?fW ?fC ?fK
  case fm => intro y h1 h2; simp only [h1, h2, if_false]
  case fN =>
    iterate 12 (refine List.forall_mem_cons.mpr ⟨by k_mem, ?_⟩)
    intro q hq
    repeat (first | exact hq | refine List.mem_cons_of_mem _ ?_)
  case fK => assumption
  case foN => assumption
  case fW => exact ⟨by kts_caught, by kts_caught, by kts_caught, ⟨_, _, by kts_caught, by assumption⟩, ⟨_, by kts_caught⟩, by kts_caught, ⟨_, by kts_caught⟩, ⟨_, by kts_caught⟩, ⟨_, by kts_caught⟩, by assumption⟩
  case fC => exact ⟨by kts_caught, ⟨_, by kts_caught⟩, by assumption⟩
end
section
theorem w_EX22 : True := by
  k_with_none
  trivial
open PySem.Calls PySem.Spec PyProof.Rows.LCg

section
variable {prog : Program} {w : World} {A₀ A : Around} {s : Shared} {base h₀ : Heap} {outer : List Env} {L : Addr} {m : Str → Option Value} {K : Frag} {p : Program} {loose : List Str} {mean : ExcName → Option Value} {mg mb : Str → Option Value} {big ls : List (Addr × Obj)}
/-- the call of a def whose locals are captured, from a frame of which a part of the ledger is listed -/
theorem law_defC {env : Env} {R : Result → Shared → Prop} {name qual : Str} {params : Arguments} {body : List Stmt} {scope : Scope} {dV kV doc pm cdv ct oc : Value} {an od : Option Addr} {osl : Array (Option Value)} {f : Addr} {args : Args} {binds : List (Str × Value)}
    (B : Below A₀ base outer h₀) (F : Fr h₀ L s.heap m) (X₀ : K.In h₀) (T : Top p loose mean mg mb h₀) (N : News h₀ L s.heap big) (hsub : ∀ q ∈ ls, q ∈ big) (hA : A.frames = some (env :: outer)) (hf : env.frame = some L) (hke : env.scope.kind = .function)
    (ho : K.lookup f = some ⟨oc, od, .func (fnOf name qual params body scope dV kV doc pm an cdv ct), osl⟩) (hcd : codeIn K cdv qual = true) (hroom : A.depth < recursionLimit)
    (hbind : BindsTo s (fnOf name qual params body scope dV kV doc pm an cdv ct) args binds) (hkind : (binds.all fun y => scope.names.lookup y.1 == some .local || scope.names.lookup y.1 == some .cell) = true)
    (hnd : ((cellsFrom 0 scope.names []).map (·.1)).Nodup)
    (h : ∀ g L' h₁ tk cells, (∀ b o, s.heap.get? b = some o → b ∉ ls.map (·.1) → g.get? b = some o) → Fr g L' h₁ (bindL (envOfC qual scope L' f cdv).kindOf binds fun _ => none) → News g L' h₁ (cells ++ ls) →
      CellsAre (bindC (envOfC qual scope L' f cdv).kindOf binds fun _ => none) (cellsFrom (L' + 1) scope.names []) cells → Below A base (env :: outer) g → K.In g → Top p loose mean mg mb g → (∀ p ∈ ls, p.1 < L') →
      wpAny (model prog w) (A.deeper (envOfC qual scope L' f cdv)) (execs body (envOfC qual scope L' f cdv))
        (fun fl s' => LeaveN g (fun ls' v s' => Fr h₀ L s'.heap m → (∀ q, (q ∈ ls' ∨ (q ∈ big ∧ q.1 ∉ ls.map (·.1))) → s'.heap.get? q.1 = some q.2 ∧ q.1 ≠ L ∧ h₀.get? q.1 = none) → R (.ok (.ret v)) s') (match fl with | .ret v => v | _ => .none) s')
        (fun e s' => wpAny (model prog w) (A.deeper (envOfC qual scope L' f cdv)) (leaving (envOfC qual scope L' f cdv) e) (fun _ s'' => R (.error e) s'') (fun e' s'' => R (.error e') s'') s')
        { s with heap := h₁, toks := tk })
    (hco : scope.isCoroutine = false) (hgen : scope.isGenerator = false) (hk : scope.kind = .function) : codeAny (model prog w) A (.call (.ref f) args) R s := by
  have Nl : News h₀ L s.heap ls := fun q hq => N q (hsub q hq)
  obtain ⟨FG, BG, st, lv⟩ := groundX (R := R) B F Nl hA hf hke
  refine codeAny_call_function (fd := fnOf name qual params body scope dV kV doc pm an cdv ct) hroom ((X₀.keeps F.keep) _ _ ho) rfl hco hgen rfl (codeRec_of (X₀.keeps F.keep) hcd) (hbind _ _ _ _ ?_)
  refine wpAny_newFunctionEnv_cells hk (kindsX hkind _) fun env' he s' x => ?_
  subst he
  refine ⟨(T.nolimit.keeps F.keep).keeps x.toInCall.keep, codeAny_func ?_⟩
  obtain ⟨h₁, tk, rfl, _⟩ := x.done
  have hk₁ := x.toInCall.keep
  obtain ⟨cells, NC, Y⟩ := Cl.news (h₀ := s.heap) (Nat.le_refl _) fun n c hm => ⟨x.cell n c (lookup_of_mem_nodup (cellsFrom_names scope.names 0 (s.heap.objs.size + 1) [] [] rfl ▸ hnd) hm), x.above n c hm⟩
  refine wpAny_mono (h _ s.heap.objs.size h₁ tk cells (fun b o e n => hideAll_get _ e n) ⟨x.toInCall.ns, fun b o e => hk₁ b o (of_hideAll _ e), Nat.le_of_eq (hideAll_size _ _)⟩ (fun p hp => ?_) Y BG (X₀.keeps st) (T.keeps st) (fun p hp => Heap.lt_size (Nl p hp).1)) (fun fl s' hl => ?_) fun _ _ y => y
  · rcases List.mem_append.mp hp with hp | hp
    · refine ⟨(NC p hp).1, (NC p hp).2.1, ?_⟩
      cases q : (hideAll s.heap (ls.map (·.1))).get? p.1 with
      | none => rfl
      | some o => have := of_hideAll _ q; rw [(NC p hp).2.2] at this; cases this
    · exact ⟨hk₁ _ _ (Nl p hp).1, Nat.ne_of_lt (Heap.lt_size (Nl p hp).1), hideAll_none _ (List.mem_map_of_mem hp)⟩
  · obtain ⟨L', m', ls', F', N', k⟩ := hl
    obtain ⟨oL, es, ep, hL, hLd, hLk, hLf⟩ := FG.ns
    refine k ⟨⟨oL, es, ep, F'.keep L oL hL, hLd, hLk, hLf⟩, fun b o e => F'.keep b o (st b o e), F.above⟩ (fun q hq => ?_)
    rcases hq with hq | ⟨hq, hn⟩
    · refine ⟨(N' q hq).1, fun e => ?_, ?_⟩
      · have := (N' q hq).2.2; rw [e, hL] at this; cases this
      · cases z : h₀.get? q.1 with
        | none => rfl
        | some o => have := (N' q hq).2.2; rw [st _ _ z] at this; cases this
    · exact ⟨F'.keep _ _ (hideAll_get _ (N q hq).1 hn), (N q hq).2⟩
end
end
section
open PySem.Calls PySem.Spec PyProof.Rows.LCg
theorem w_V_ln_0 : True := by
  k_with_none
  k_with "M k_room" => ((try simp only [depth_mark, depth_under_make, depth_under_kw, depth_in1, depth_deeper]); exact Nat.lt_of_lt_of_le (m := 900) (by decide) (by decide))
  k_with "M exec Raise some none" => (k_here; (with_reducible show wpAny _ _ (exec (Stmt.Raise (some (Expr.Call (Expr.Name ("BasicError" : Str) _) _ [] _)) none _) _) _ _ _); k_dflt (refine' raise_K ?zzF ?zzX ?zzh ?_; (case zzF => k_asm); (case zzX => k_asm); (case zzh => first | rfl | assumption); k_whole))
  k_with "M call ref" => (k_here; k_dflt (refine wpAny_call ?_; refine' code_defC ?zzk1 ?zzk2 ?zzk3 ?zzk4 ?zzk5 ?zzkA ?zzkF ?zzkK ?zzk6 ?zzk7 ?zzk8 ?zzk9 ?zzkB ?zzkD ?_ ?zzc2 ?zzc3 ?zzc4; (case zzkA => exact Around.frames_deeper (Below.stack (by assumption))); (case zzkF => exact rfl); (case zzkK => exact rfl); (case zzk1 => k_asm); (case zzk2 => k_asm); (case zzk3 => k_asm); (case zzk4 => k_asm); (case zzk5 => k_asm); (case zzk6 => k_is); (case zzk7 => k_is); (case zzk8 => k_room); (case zzk9 => first | exact BindsTo.of_eq rfl | exact binds_K (by k_in) rfl (by k_is) rfl rfl rfl | fail "k_enter: no rule for these arguments"); (case zzkB => exact rfl); (case zzkD => decide +kernel); (case zzc2 => exact rfl); (case zzc3 => exact rfl); (case zzc4 => exact rfl); k_whole; intro g'w L'w h'w tk'w cells'w FG'w F'w N'w Y'w B'w X'w T'w l1'w; (try k_lt l1'w); k_cells Y'w; (try simp only [List.cons_append, List.nil_append] at N'w); (try dsimp only); (try k_lift B'w); (try k_fold)))
  k_with "M call ref" => (k_here; k_dflt (refine wpAny_call ?_; refine' code_def ?zzk1 ?zzk2 ?zzk3 ?zzk4 ?zzk5 ?zzkA ?zzkF ?zzkK ?zzk6 ?zzk7 ?zzk8 ?zzk9 ?zzkB ?_ ?zzc2 ?zzc3 ?zzc4 ?zzc5; (case zzkA => exact Around.frames_deeper (Below.stack (by assumption))); (case zzkF => exact rfl); (case zzkK => exact rfl); (case zzk1 => k_asm); (case zzk2 => k_asm); (case zzk3 => k_asm); (case zzk4 => k_asm); (case zzk5 => k_asm); (case zzk6 => k_is); (case zzk7 => k_is); (case zzk8 => k_room); (case zzk9 => first | exact BindsTo.of_eq rfl | exact binds_K (by k_in) rfl (by k_is) rfl rfl rfl | fail "k_enter: no rule for these arguments"); (case zzc5 => decide); (case zzkB => exact locs rfl); (case zzc2 => exact rfl); (case zzc3 => exact rfl); (case zzc4 => exact rfl); k_whole; intro g'w L'w h'w FG'w F'w N'w B'w X'w T'w; (try dsimp only); (try k_lift B'w); (try k_fold)))
  k_with "M call ref" => (k_here; (with_reducible show wpAny _ _ (call (Value.ref 34) _) _ _ _); k_dflt (refine' bx_make ?zzF ?zzX ?zzT ?zzr ?zzl ?_; (case zzF => k_asm); (case zzX => k_asm); (case zzT => k_asm); (case zzr => k_room); (case zzl => first | exact Nat.zero_le _ | exact Nat.le_refl _); k_whole); intro h'w tk'w e'w dx'w mb'w)
  k_with "M RaisesB" => (k_dflt (refine' raisesB_K ?zzF ?zzM ?_; (case zzF => k_asm); (case zzM => assumption); k_whole))
  k_with "M leaving ref" => (k_here; first
  | (refine' leave_newB ?zzk1 ?zzk0 ?zzk2 ?zzk3 ?zzkf ?zzkk ?_; (case zzk0 => assumption); (case zzk1 => assumption); (case zzk2 => assumption); (case zzk3 => k_asm); (case zzkf => rfl); (case zzkk => rfl); k_whole; intro h'w R'w U'w; (try dsimp only at R'w U'w ⊢))
  | (refine' leave_onB ?zzk1 ?zzk2 ?zzk3 ?zzk4 ?zzkf ?_; (case zzk3 => assumption); (case zzk1 => assumption); (case zzk4 => assumption); (case zzk2 => assumption); (case zzkf => rfl); k_whole; intro h'w R'w U'w; (try dsimp only at R'w U'w ⊢)))
  k_with "M getAttr ref" => (k_here; k_dflt (refine' get_own ?zzk1 ?zzk2 ?zzk3 ?zzk4 ?zzk5 ?zzk6 ?zzk7 ?zzk8 ?zzk9 ?_; (case zzk1 => k_asm); (case zzk2 => k_asm); (case zzk3 => k_inst); (case zzk4 => k_is); (case zzk5 => k_is); (case zzk6 => k_is); (case zzk7 => k_is); (case zzk8 => assumption); (case zzk9 => k_handed); k_whole))
  k_with "M eval Name" => (k_here; kc_free; k_dflt (refine' nameX_F ?zzN ?zzc ?zzm ?zzd ?_ ?zza ?zzb; (case zza => rfl); (case zzb => rfl); (case zzN => k_asm); (case zzc => rfl); (case zzm => k_mem); (case zzd => assumption); k_whole))
  k_with "M compareOp In int ref" => (k_here; k_dflt (refine kda_in (knd := PySem.intKind _ _) (by k_asm) (by k_mem) (by k_asm) (by k_asm) (intKind_is _ _ _ _) false (not_three (by omega) (by omega) (by omega)) ?_))
  k_with "M compareOp NotIn int ref" => (k_here; k_dflt (refine kdg_notin (knd := PySem.intKind _ _) (by k_asm) (by k_mem) (by k_asm) (by k_asm) (intKind_is _ _ _ _) false (not_three (by omega) (by omega) (by omega)) ?_))
  k_with "M exec For Name Attribute cons nil" => (k_here; (rename Fr _ _ _ _ => lF'w); (with_unfolding_all refine' For_turns lF'w ?_; k_whole))
  k_with "M pyIter ref" => (k_here; (with_reducible show wpAny _ _ (pyIter (Value.ref _)) (fun it s₂ => TurnsAt _ _ _ _ _ _ _ _ _ it s₂) _ _); (rename Fr _ _ _ _ => lF'w); (rename News _ _ _ _ => lN'w); (with_unfolding_all first
  | refine kta_keys (knd := PySem.intKind _ _) (enc := PyData.int) (xs := [Itm.tok (fun t => Value.int 1 t), Itm.tok (fun t => Value.int 2 t), Itm.tok (fun t => Value.int 3 t)]) (by rfl) lF'w lN'w (by k_mem) (by k_asm) (by k_asm) (fun _ _ h => Value.isInt_shape h) (by rfl) ?_
  | refine kta_keys (knd := PySem.intKind _ _) (enc := PyData.int) (xs := [Itm.tok (fun t => Value.int 1 t), Itm.tok (fun t => Value.int 2 t)]) (by rfl) lF'w lN'w (by k_mem) (by k_asm) (by k_asm) (fun _ _ h => Value.isInt_shape h) (by rfl) ?_
  | refine kta_keys (knd := PySem.intKind _ _) (enc := PyData.int) (xs := [Itm.tok (fun t => Value.int 1 t)]) (by rfl) lF'w lN'w (by k_mem) (by k_asm) (by k_asm) (fun _ _ h => Value.isInt_shape h) (by rfl) ?_
  | refine kta_keys (knd := PySem.intKind _ _) (enc := PyData.int) (xs := []) (by rfl) lF'w lN'w (by k_mem) (by k_asm) (by k_asm) (fun _ _ h => Value.isInt_shape h) (by rfl) ?_); clear lF'w lN'w; intro i'w l1'w; (try k_lt l1'w))
  k_with "M And" => (k_here; (exact ⟨by first | rfl | exact decide_eq_false (by omega), _, rfl⟩))
  k_with "M exec For Tuple Call cons nil" => (k_here; (rename Fr _ _ _ _ => lF'w); (with_unfolding_all refine' For_turns lF'w ?_; k_whole))
  k_with "M kts_caught" => first | exact PutAt.same (by assumption) | assumption | (refine Eq.trans (PutAt.other (by assumption) _ (by decide)) ?_; k_extra "M kts_caught")
  k_with "M getAttr ref" => (k_here; k_dflt (refine' get_own ?zzk1 ?zzk2 ?zzk3 ?zzk4 ?zzk5 ?zzk6 ?zzk7 ?zzk8 ?zzk9 ?_; (case zzk1 => k_asm); (case zzk2 => k_asm); (case zzk3 => k_inst); (case zzk4 => k_is); (case zzk5 => k_is); (case zzk6 => k_is); (case zzk7 => k_is); (case zzk8 => kts_caught); (case zzk9 => k_handed); k_whole))
  k_with "M setAttr ref" => (k_here; k_dflt (refine' set_abs ?zzk1 ?zzk2 ?zzk3 ?zzk4 ?zzk5 ?zzk6 ?zzk7 ?zzk8 ?zzk9 ?zzk10 ?zzk12 ?zzk13 ?_; (case zzk1 => k_asm); (case zzk2 => k_asm); (case zzk3 => k_asm); (case zzk4 => k_inst); (case zzk5 => exact rfl); (case zzk6 => k_is); (case zzk7 => k_is); (case zzk8 => k_is); (case zzk9 => k_is); (case zzk10 => kts_caught); (case zzk12 => k_updF); (case zzk13 => assumption); k_whole); intro h'w es'w n'w F'w N'w P'w z'w; (try dsimp only at N'w))
  trivial

theorem fmod_lo {a b : Int} (h : 1 ≤ b) : 0 ≤ a.fmod b := by rw [Int.fmod_eq_emod_of_nonneg _ (by omega)]; exact Int.emod_nonneg _ (by omega)
theorem fmod_hi {a b : Int} (h : 1 ≤ b) : a.fmod b < b := by rw [Int.fmod_eq_emod_of_nonneg _ (by omega)]; exact Int.emod_lt_of_pos _ (by omega)

theorem law_next_0 {w : World} {base h₀ : Heap} {outer : List Env} {env : Env} {L : Addr} {m mg mb : Str → Option Value} {p : Program} {loose : List Str} {mean : ExcName → Option Value} {s : Shared} {Q E : Value → Shared → Prop} {big : List (Addr × Obj)} {SK CL : Addr} {vs : List Value} {ns : List Int} {nSK nCL : Nat} {k many : Int} {tk0 tm : Tok} {g : Obj → List (Addr × Obj)}
  (B : Below callerA base outer h₀) (F : Fr h₀ L s.heap m) (X : (hd.heap_1_39 w.params).In h₀) (T : Top p loose mean mg mb h₀) (hf : env.frame = some L) (hke : env.scope.kind = .function)
  (N : News h₀ L s.heap big) (US : UpdF SK (listOf #[.ref CL, .int k tk0] nSK) big g) (mC : (CL, listOf vs.toArray nCL) ∈ big) (hi : IntsAre vs ns) (hlen : ns.length ≤ 63) (hk0 : 0 ≤ k) (hk1 : k ≤ 10) (hm0 : 1 ≤ many) (hm1 : many ≤ 100) (nSC : ¬ @Eq Nat CL SK)
  (hQ : ∀ h' tk r t' t'' n', 0 ≤ r → r < many → Fr h₀ L h' m → News h₀ L h' (g (listOf #[.ref CL, .int (k + 1) t'] n')) → Q (.int r t'') { s with heap := h', toks := tk }) :
  wpAny (model RW.row.prog w) (callerA.deeper env) (call (.ref 404) [.ref SK, .int many tm]) Q E s := by
  have BFN := And.intro F N
  revert X; k_fill; intro X
  refine wpAny_call ?_
  refine' law_def (ls := [(SK, listOf #[.ref CL, .int k tk0] nSK), (CL, listOf vs.toArray nCL)]) B F X T N ?hsub (Around.frames_deeper B.stack) hf hke ?k6 ?k7 ?k8 ?k9 ?kB ?_ ?c2 ?c3 ?c4 ?c5
  case hsub => intro q hq; simp only [List.mem_cons, List.not_mem_nil, or_false] at hq; rcases hq with rfl | rfl <;> first | exact updF_has US | exact mC
  case k6 => k_is
  case k7 => k_is
  case k8 => k_room
  case k9 => exact BindsTo.of_eq rfl
  case kB => exact locs rfl
  case c2 => exact rfl
  case c3 => exact rfl
  case c4 => exact rfl
  case c5 => decide
  clear F N
  intro g' L' h' hg F' N' B' X' T'
  k_fold
  have fin : ∀ (h9 : Heap) (tk : Nat) (m9 : Str → Option Value) (r : Int) (t1 t2 : Tok) (n9 : Nat), Fr g' L' h9 m9 → News g' L' h9 [(SK, listOf #[.ref CL, .int (k + 1) t1] n9), (CL, listOf vs.toArray nCL)] → 0 ≤ r → r < many →
      LeaveN g' (fun ls' v s' => Fr h₀ L s'.heap m → (∀ q, (q ∈ ls' ∨ (q ∈ big ∧ q.1 ∉ [(SK, listOf #[.ref CL, .int k tk0] nSK), (CL, listOf vs.toArray nCL)].map (·.1))) → s'.heap.get? q.1 = some q.2 ∧ q.1 ≠ L ∧ h₀.get? q.1 = none) → Q v s') (.int r t2) { s with heap := h9, toks := tk } := by
    intro h9 tk m9 r t1 t2 n9 F9 N9 e1 e2
    refine ⟨_, _, _, F9, N9, fun Fh Hq => hQ _ _ _ t1 _ n9 e1 e2 Fh (fun q hq => Hq q ?_)⟩
    rcases updF_mem US q hq with rfl | ⟨hq, nO⟩
    · exact .inl (.head _)
    · by_cases hm : q.1 ∈ [(SK, listOf #[.ref CL, .int k tk0] nSK), (CL, listOf vs.toArray nCL)].map (·.1)
      · have hl := listed BFN.2 (by intro q hq; simp only [List.mem_cons, List.not_mem_nil, or_false] at hq; rcases hq with rfl | rfl <;> first | exact updF_has US | exact mC) hq hm
        simp only [List.mem_cons, List.not_mem_nil, or_false] at hl
        rcases hl with rfl | rfl <;> first | exact absurd rfl nO | exact .inl (by repeat (first | exact .head _ | refine .tail _ ?_))
      · exact .inr ⟨hq, hm⟩
  k_steps
  all_goals exact fin _ _ _ _ _ _ _ (by assumption) (by assumption) (fmod_lo hm0) (fmod_hi hm0)

theorem law_next_1 {w : World} {base h₀ : Heap} {outer : List Env} {env : Env} {L : Addr} {m mg mb : Str → Option Value} {p : Program} {loose : List Str} {mean : ExcName → Option Value} {s : Shared} {Q E : Value → Shared → Prop} {big : List (Addr × Obj)} {e1 : Env} {SK CL : Addr} {vs : List Value} {ns : List Int} {nSK nCL : Nat} {k many : Int} {tk0 tm : Tok} {g : Obj → List (Addr × Obj)}
  (B : Below (callerA.deeper e1) base outer h₀) (F : Fr h₀ L s.heap m) (X : (hd.heap_1_39 w.params).In h₀) (T : Top p loose mean mg mb h₀) (hf : env.frame = some L) (hke : env.scope.kind = .function)
  (N : News h₀ L s.heap big) (US : UpdF SK (listOf #[.ref CL, .int k tk0] nSK) big g) (mC : (CL, listOf vs.toArray nCL) ∈ big) (hi : IntsAre vs ns) (hlen : ns.length ≤ 63) (hk0 : 0 ≤ k) (hk1 : k ≤ 10) (hm0 : 1 ≤ many) (hm1 : many ≤ 100) (nSC : ¬ @Eq Nat CL SK)
  (hQ : ∀ h' tk r t' t'' n', 0 ≤ r → r < many → Fr h₀ L h' m → News h₀ L h' (g (listOf #[.ref CL, .int (k + 1) t'] n')) → Q (.int r t'') { s with heap := h', toks := tk }) :
  wpAny (model RW.row.prog w) ((callerA.deeper e1).deeper env) (call (.ref 404) [.ref SK, .int many tm]) Q E s := by
  have BFN := And.intro F N
  revert X; k_fill; intro X
  refine wpAny_call ?_
  refine' law_def (ls := [(SK, listOf #[.ref CL, .int k tk0] nSK), (CL, listOf vs.toArray nCL)]) B F X T N ?hsub (Around.frames_deeper B.stack) hf hke ?k6 ?k7 ?k8 ?k9 ?kB ?_ ?c2 ?c3 ?c4 ?c5
  case hsub => intro q hq; simp only [List.mem_cons, List.not_mem_nil, or_false] at hq; rcases hq with rfl | rfl <;> first | exact updF_has US | exact mC
  case k6 => k_is
  case k7 => k_is
  case k8 => k_room
  case k9 => exact BindsTo.of_eq rfl
  case kB => exact locs rfl
  case c2 => exact rfl
  case c3 => exact rfl
  case c4 => exact rfl
  case c5 => decide
  clear F N
  intro g' L' h' hg F' N' B' X' T'
  k_fold
  have fin : ∀ (h9 : Heap) (tk : Nat) (m9 : Str → Option Value) (r : Int) (t1 t2 : Tok) (n9 : Nat), Fr g' L' h9 m9 → News g' L' h9 [(SK, listOf #[.ref CL, .int (k + 1) t1] n9), (CL, listOf vs.toArray nCL)] → 0 ≤ r → r < many →
      LeaveN g' (fun ls' v s' => Fr h₀ L s'.heap m → (∀ q, (q ∈ ls' ∨ (q ∈ big ∧ q.1 ∉ [(SK, listOf #[.ref CL, .int k tk0] nSK), (CL, listOf vs.toArray nCL)].map (·.1))) → s'.heap.get? q.1 = some q.2 ∧ q.1 ≠ L ∧ h₀.get? q.1 = none) → Q v s') (.int r t2) { s with heap := h9, toks := tk } := by
    intro h9 tk m9 r t1 t2 n9 F9 N9 e1 e2
    refine ⟨_, _, _, F9, N9, fun Fh Hq => hQ _ _ _ t1 _ n9 e1 e2 Fh (fun q hq => Hq q ?_)⟩
    rcases updF_mem US q hq with rfl | ⟨hq, nO⟩
    · exact .inl (.head _)
    · by_cases hm : q.1 ∈ [(SK, listOf #[.ref CL, .int k tk0] nSK), (CL, listOf vs.toArray nCL)].map (·.1)
      · have hl := listed BFN.2 (by intro q hq; simp only [List.mem_cons, List.not_mem_nil, or_false] at hq; rcases hq with rfl | rfl <;> first | exact updF_has US | exact mC) hq hm
        simp only [List.mem_cons, List.not_mem_nil, or_false] at hl
        rcases hl with rfl | rfl <;> first | exact absurd rfl nO | exact .inl (by repeat (first | exact .head _ | refine .tail _ ?_))
      · exact .inr ⟨hq, hm⟩
  k_steps
  all_goals exact fin _ _ _ _ _ _ _ (by assumption) (by assumption) (fmod_lo hm0) (fmod_hi hm0)
end
section
theorem w_EX23 : True := by
  k_with_none
  trivial
open PySem.Calls PySem.Spec PyProof.Rows.LCg

section
variable {prog : Program} {w : World} {A : Around} {E : Value → Shared → Prop} {s : Shared} {h₀ : Heap} {L D : Addr} {m : Str → Option Value} {news : List (Addr × Obj)} {n : Nat} {k : Int} {u t0 t1 t2 : Tok} {Q : Value → Shared → Prop}
/-- an item of [0, 16, 40] at an unknown place -/
theorem menu3 {value slice : PySem.Expr} (N : News h₀ L s.heap news) (hm : (D, listOf #[.int 0 t0, .int 16 t1, .int 40 t2] n) ∈ news) (h0 : 0 ≤ k) (h1 : k < 3) (h : ∀ v t, (v = 0 ∨ v = 16 ∨ v = 40) → Q (.int v t) s)
    (hs : subscripted slice false (.ref D) (.int k u) = operate [.ref D, .int k u] (getItem (.ref D) (.int k u)) := by with_unfolding_all rfl) :
    wpAny (model prog w) A (subscriptTail value slice (.ref D) (.int k u)) Q E s := by
  have hl : s.heap.IsList D #[.int 0 t0, .int 16 t1, .int 40 t2] := ⟨_, (N _ hm).1, rfl, _, rfl⟩
  obtain rfl | rfl | rfl : k = 0 ∨ k = 1 ∨ k = 2 := by omega
  · exact tail_any hl.typeIs slot_list_getitem.lookup (wpAny_getItem_list hl (by omega) (by omega) (show _ = some (Value.int 0 t0) from rfl) (h _ _ (.inl rfl))) hs
  · exact tail_any hl.typeIs slot_list_getitem.lookup (wpAny_getItem_list hl (by omega) (by omega) (show _ = some (Value.int 16 t1) from rfl) (h _ _ (.inr (.inl rfl)))) hs
  · exact tail_any hl.typeIs slot_list_getitem.lookup (wpAny_getItem_list hl (by omega) (by omega) (show _ = some (Value.int 40 t2) from rfl) (h _ _ (.inr (.inr rfl)))) hs
end
end
section
open PySem.Calls PySem.Spec PyProof.Rows.LCg

/-- an element of a list display of pairs (a code, a lambda) -/
structure LamD where
  code : Str
  params : Arguments
  body : Expr
  scope : Scope
  pos : Pos
  clos : List (Str × Addr)
noncomputable def Disp (env : Env) : List Expr → List LamD → Prop
  | [], [] => True
  | e :: es, d :: ds => (∃ k cpos tk tpos, e = .Tuple [.Constant (.str d.code) k cpos, .Lambda d.params d.body d.scope d.pos] tk tpos) ∧ closureFor d.scope env = pure d.clos ∧ defaultsOf d.params env = ([], []) ∧ Disp env es ds
  | _, _ => False
theorem Disp.nil' {env : Env} : Disp env [] [] := trivial
theorem Disp.cons' {env : Env} {code : Str} {k : Nat} {cpos : Pos} {params : Arguments} {body : Expr} {scope : Scope} {pos : Pos} {clos : List (Str × Addr)} {tk : Nat} {tpos : Pos} {es : List Expr} {ds : List LamD} (hcl : closureFor scope env = pure clos) (hdef : defaultsOf params env = ([], [])) (h : Disp env es ds) :
    Disp env (.Tuple [.Constant (.str code) k cpos, .Lambda params body scope pos] tk tpos :: es) (⟨code, params, body, scope, pos, clos⟩ :: ds) := ⟨⟨_, _, _, _, rfl⟩, hcl, hdef, h⟩
noncomputable def posOk : List LamD → Bool
  | [] => true
  | d :: ds => ds.all (fun e => !(d.pos.line == e.pos.line && d.pos.col == e.pos.col)) && posOk ds
theorem posOk_pairwise : ∀ {ds : List LamD}, posOk ds = true → ds.Pairwise (fun x y => ¬ (x.pos.line = y.pos.line ∧ x.pos.col = y.pos.col))
  | [], _ => .nil
  | d :: ds, h => by
    have h := Bool.and_eq_true_iff.mp h
    refine .cons (fun e he => ?_) (posOk_pairwise h.2)
    have z := List.all_eq_true.mp h.1 e he
    rintro ⟨a, b⟩
    simp [a, b] at z
def LamIt (own : List (Addr × Obj)) (qual : Str) (d : LamD) (T : Addr) : Prop :=
  ∃ f c' oc vs t pm ctv tc oT nt, (T, oT) ∈ own ∧ oT.cls = .type "tuple" ∧ oT.data = .seq #[.str d.code tc, .ref f] nt ∧ (f, kla_obj "<lambda>" qual d.params d.body d.scope d.clos pm c' ctv) ∈ own ∧ (c', oc) ∈ own ∧ oc.data = .fields vs ∧ vs[1]? = some (.str qual t)
noncomputable def LamIts (own : List (Addr × Obj)) (qual : Str) : List LamD → List Addr → Prop
  | [], [] => True
  | d :: ds, T :: Ts => LamIt own qual d T ∧ LamIts own qual ds Ts
  | _, _ => False
theorem LamIt.mono {own own' : List (Addr × Obj)} {qual : Str} {d : LamD} {T : Addr} (h : LamIt own qual d T) (hs : ∀ q ∈ own, q ∈ own') : LamIt own' qual d T := by
  obtain ⟨f, c', oc, vs, t, pm, ctv, tc, oT, nt, a, b, c, e, g, i, j⟩ := h
  exact ⟨f, c', oc, vs, t, pm, ctv, tc, oT, nt, hs _ a, b, c, hs _ e, hs _ g, i, j⟩
theorem LamIts.mono {own own' : List (Addr × Obj)} {qual : Str} (hs : ∀ q ∈ own, q ∈ own') : ∀ {ds : List LamD} {Ts : List Addr}, LamIts own qual ds Ts → LamIts own' qual ds Ts
  | [], [], _ => trivial
  | _ :: _, _ :: _, h => ⟨h.1.mono hs, h.2.mono hs⟩
  | [], _ :: _, h => h.elim
  | _ :: _, [], h => h.elim
theorem LamIts.len {own : List (Addr × Obj)} {qual : Str} : ∀ {ds : List LamD} {Ts : List Addr}, LamIts own qual ds Ts → Ts.length = ds.length
  | [], [], _ => rfl
  | _ :: _, _ :: _, h => by rw [List.length_cons, List.length_cons, LamIts.len h.2]
  | [], _ :: _, h => h.elim
  | _ :: _, [], h => h.elim

section
variable {prog : Program} {w : World} {A : Around} {E : Value → Shared → Prop} {h₀ : Heap} {L a c P : Addr} {m mg mb : Str → Option Value} {cn : Str} {cs : Scope} {ccd : Value} {cl : List (Str × Addr)}
  {p : Program} {loose : List Str} {mean : ExcName → Option Value}

theorem triplesOk_triples : ∀ (ps : List (Pos × Addr)), TriplesOk (triples ps)
  | [] => trivial
  | (_, _) :: r => triplesOk_triples r
theorem disp_items (T : Top p loose mean mg mb h₀) (C : CodeHd h₀ c P) (hcd : ccd = .ref c) {pos : Pos} : ∀ (elts : List Expr) (ds : List LamD) (_ : Disp (envX cn cs L a ccd cl) elts ds) (ps : List (Pos × Addr)) (own : List (Addr × Obj)) (s : Shared) (Q : List Value → Shared → Prop)
    (_ : Fr h₀ L s.heap m) (_ : News h₀ L s.heap ((P, tabObj (triples ps).toArray) :: own)) (_ : ∀ q ∈ own, q.1 ≠ P) (_ : ∀ d ∈ ds, ∀ q ∈ ps, ¬ (q.1.line = d.pos.line ∧ q.1.col = d.pos.col)) (_ : ds.Pairwise (fun x y => ¬ (x.pos.line = y.pos.line ∧ x.pos.col = y.pos.col)))
    (_ : ∀ Ts new ps' h' tk, Fr h₀ L h' m → News h₀ L h' ((P, tabObj (triples ps').toArray) :: (own ++ new)) → LamIts new ((envX cn cs L a ccd cl).qual ++ "<lambda>") ds Ts → (∀ q ∈ new, (∀ x ∈ own, x.1 < q.1) ∧ P < q.1) → Q (Ts.map .ref) { s with heap := h', toks := tk }),
    wpAny (model prog w) A (spliced (backTo pos (starEach elts (envX cn cs L a ccd cl)))) Q E s
  | [], [], _, ps, own, s, Q, F, N, hoff, _, _, k => by
    refine spliced_none ?_
    have := k [] [] ps s.heap s.toks F (by rw [List.append_nil]; exact N) trivial (fun q hq => nomatch hq)
    exact this
  | e :: es, d :: ds, ⟨⟨k1, cpos, tk, tpos, he⟩, hcl, hdef, hD⟩, ps, own, s, Q, F, N, hoff, hps, hpw, k => by
    subst he
    refine spliced_more ?_
    refine Tuple_ (spliced_more (Constant_str ?_))
    refine spliced_more ?_
    refine kla_eval hdef ?_
    have hpw' := List.pairwise_cons.mp hpw
    refine kla_nest (ps := (triples ps).toArray) F N T C hcd (UpdF.head hoff) (by rw [List.toList_toArray]; exact triplesOk_triples ps) (by rw [List.toList_toArray]; exact codeAmong_triples _ _ (fun q hq => hps d (.head _) q hq)) hcl ?_
    intro f c' oc vs t ctv h' tk' F' N' ho1 ho2 l1 l2
    refine spliced_none ?_
    refine newTuple_N F' N' ?_
    intro h2 F2 N2
    have lT : ∀ q ∈ ((f, kla_obj "<lambda>" ((envX cn cs L a ccd cl).qual ++ "<lambda>") d.params d.body d.scope d.clos ((mg "__name__").getD .none) c' ctv) :: (c', oc) :: (P, tabObj ((triples ps).toArray ++ #[rawInt d.pos.line, rawInt d.pos.col, .ref c'])) :: own), q.1 < h'.objs.size := fun q hq => Heap.lt_size (N' q hq).1
    have eT : (triples ps).toArray ++ #[rawInt d.pos.line, rawInt d.pos.col, .ref c'] = (triples (ps ++ [(d.pos, c')])).toArray := by rw [triples_append]; simp
    rw [eT] at N2 lT
    have lP := l1 _ (.head _)
    generalize hTa : h'.objs.size = Ta at N2 lT
    generalize hoT : ({ cls := .type "tuple", data := .seq [Value.str d.code s.toks, Value.ref f].toArray } : Obj) = oT at N2
    have hoTc : oT.cls = .type "tuple" := by rw [← hoT]
    have hoTd : ∃ nt, oT.data = .seq #[Value.str d.code s.toks, Value.ref f] nt := ⟨_, by rw [← hoT]⟩
    obtain ⟨nt, hoTd⟩ := hoTd
    generalize hof : kla_obj "<lambda>" ((envX cn cs L a ccd cl).qual ++ "<lambda>") d.params d.body d.scope d.clos ((mg "__name__").getD .none) c' ctv = of at N2 lT
    have lf : f < Ta := lT _ (.head _)
    have lc : c' < Ta := lT _ (.tail _ (.head _))
    refine disp_items T C hcd es ds hD (ps ++ [(d.pos, c')]) (own ++ [(Ta, oT), (f, of), (c', oc)]) _ _ F2 (pickN N2 ?_) ?_ ?_ hpw'.2 ?_
    · intro q hq
      rcases List.mem_cons.mp hq with rfl | hq
      · exact .tail _ (.tail _ (.tail _ (.head _)))
      rcases List.mem_append.mp hq with hq | hq
      · exact .tail _ (.tail _ (.tail _ (.tail _ hq)))
      · simp only [List.mem_cons, List.not_mem_nil, or_false] at hq
        rcases hq with rfl | rfl | rfl
        · exact .head _
        · exact .tail _ (.head _)
        · exact .tail _ (.tail _ (.head _))
    · intro q hq
      rcases List.mem_append.mp hq with hq | hq
      · exact hoff q hq
      · simp only [List.mem_cons, List.not_mem_nil, or_false] at hq
        have lP' : P < c' := lP
        rcases hq with rfl | rfl | rfl
        · exact Nat.ne_of_gt (Nat.lt_trans lP' lc)
        · exact Nat.ne_of_gt (Nat.lt_trans lP' l2)
        · exact Nat.ne_of_gt lP'
    · intro d' hd' q hq
      rcases List.mem_append.mp hq with hq | hq
      · exact hps d' (.tail _ hd') q hq
      · rw [List.mem_singleton.mp hq]
        exact hpw'.1 d' hd'
    · intro Ts new ps' h3 tk3 F3 N3 hit hlt
      have lP' : P < c' := lP
      have lown : ∀ x ∈ own, x.1 < c' := fun x hx => l1 x (.tail _ hx)
      have := k (Ta :: Ts) ([(Ta, oT), (f, of), (c', oc)] ++ new) ps' h3 tk3 F3 (by rw [← List.append_assoc]; exact N3) ⟨⟨f, c', oc, vs, _, _, _, _, oT, nt, .head _, hoTc, hoTd, by rw [hof]; exact .tail _ (.head _), .tail _ (.tail _ (.head _)), ho1, ho2⟩, hit.mono (fun q hq => List.mem_append_right _ hq)⟩ (fun q hq => ?_)
      · exact this
      · rcases List.mem_append.mp hq with hq | hq
        · simp only [List.mem_cons, List.not_mem_nil, or_false] at hq
          rcases hq with rfl | rfl | rfl
          · exact ⟨fun x hx => Nat.lt_trans (lown x hx) lc, Nat.lt_trans lP' lc⟩
          · exact ⟨fun x hx => Nat.lt_trans (lown x hx) l2, Nat.lt_trans lP' l2⟩
          · exact ⟨lown, lP'⟩
        · exact ⟨fun x hx => (hlt q hq).1 x (List.mem_append_left _ hx), (hlt q hq).2⟩
  | [], _ :: _, h, _, _, _, _, _, _, _, _, _, _ => h.elim
  | _ :: _, [], h, _, _, _, _, _, _, _, _, _, _ => h.elim

theorem disp_list {s : Shared} {Q : Value → Shared → Prop} {big : List (Addr × Obj)} {g : Obj → List (Addr × Obj)} {pos : Pos} {elts : List Expr} {ds : List LamD} (F : Fr h₀ L s.heap m) (N : News h₀ L s.heap big) (T : Top p loose mean mg mb h₀) (C : CodeHd h₀ c P) (hcd : ccd = .ref c)
    (U : UpdF P (tabObj #[]) big g) (hD : Disp (envX cn cs L a ccd cl) elts ds) (hpw : posOk ds = true) (hn : ds.length ≤ 100)
    (k : ∀ LST oL nL Ts new (ps : Array Value) h' tk, Fr h₀ L h' m → News h₀ L h' ((LST, oL) :: (g (tabObj ps) ++ new)) → oL.cls = .type "list" → oL.data = .seq (Ts.map Value.ref).toArray nL → LamIts new ((envX cn cs L a ccd cl).qual ++ "<lambda>") ds Ts → (∀ q ∈ new, ∀ x ∈ big, x.1 < q.1) → ((∀ x ∈ big, x.1 < LST) ∧ ∀ q ∈ new, q.1 < LST) → Q (.ref LST) { s with heap := h', toks := tk }) :
    wpAny (model prog w) A (eval (.List elts pos) (envX cn cs L a ccd cl)) Q E s := by
  obtain ⟨own, rest, rfl, hgr, h1, h2⟩ := U.split
  refine List_ ?_
  refine disp_items T C hcd elts ds hD [] (own ++ rest) s _ F (pickN N ?_) ?_ (fun _ _ q hq => nomatch hq) (posOk_pairwise hpw) ?_
  · intro q hq
    rcases List.mem_cons.mp hq with rfl | hq
    · exact List.mem_append_right _ (.head _)
    rcases List.mem_append.mp hq with hq | hq
    · exact List.mem_append_left _ hq
    · exact List.mem_append_right _ (.tail _ hq)
  · intro q hq
    rcases List.mem_append.mp hq with hq | hq
    · exact h1 q hq
    · exact h2 q hq
  · intro Ts new ps' h' tk F' N' hit hlt
    refine newList_N F' N' (fun h2 F2 N2 => ?_) ?_
    · have lt : ∀ x ∈ own ++ (P, tabObj #[]) :: rest, x.1 < h'.objs.size := fun x hx => by
        rcases List.mem_append.mp hx with hx | hx
        · exact Heap.lt_size (N' x (.tail _ (List.mem_append_left _ (List.mem_append_left _ hx)))).1
        rcases List.mem_cons.mp hx with rfl | hx
        · exact Heap.lt_size (N' (P, _) (.head _)).1
        · exact Heap.lt_size (N' x (.tail _ (List.mem_append_left _ (List.mem_append_right _ hx)))).1
      refine k _ ({ cls := .type "list", data := .seq (Ts.map Value.ref).toArray } : Obj) _ Ts new (triples ps').toArray h2 tk F2 (pickN N2 ?_) rfl rfl hit ?_ ⟨lt, fun q hq => Heap.lt_size (N' q (.tail _ (List.mem_append_right _ hq))).1⟩
      · intro q hq
        rcases List.mem_cons.mp hq with rfl | hq
        · exact .head _
        rw [hgr] at hq
        rcases List.mem_append.mp hq with hq | hq
        · rcases List.mem_append.mp hq with hq | hq
          · exact .tail _ (.tail _ (List.mem_append_left _ (List.mem_append_left _ hq)))
          rcases List.mem_cons.mp hq with rfl | hq
          · exact .tail _ (.head _)
          · exact .tail _ (.tail _ (List.mem_append_left _ (List.mem_append_right _ hq)))
        · exact .tail _ (.tail _ (List.mem_append_right _ hq))
      · intro q hq x hx
        rcases List.mem_append.mp hx with hx | hx
        · exact (hlt q hq).1 x (List.mem_append_left _ hx)
        rcases List.mem_cons.mp hx with rfl | hx
        · exact (hlt q hq).2
        · exact (hlt q hq).1 x (List.mem_append_right _ hx)
    · rw [List.length_map, hit.len]
      exact Nat.le_trans hn (by rw [sizeLine_eq]; decide)
end
end
section
open PySem.Calls PySem.Spec PyProof.Rows.LCg

abbrev FileD (w : World) (o : Obj) (mode name : Str) (size : Int) (buf : Str) : Prop := ∃ t1 t2 t3 t4 t5 t6, o.IsDictOf (PySem.strKind RW.row.prog w) [("mode", .str mode t1), ("name", .str name t2), ("at", .int 0 t3), ("size", .int size t4), ("buffer", .str buf t5), ("record", .int 0 t6)]
/-- what the works read, beside the world and the control -/
structure CX (w : World) (W dW C dC dO dF dA PL : Addr) (rest : List (Addr × Obj)) : Prop where
  op : ∃ oO d1 d2 d3, (dO, oO) ∈ rest ∧ oO.IsDictOf (PySem.intKind RW.row.prog w) [(1, .ref d1), (2, .ref d2), (3, .ref d3)] ∧ (dO == sysModules) = false ∧
    (∃ o1, (d1, o1) ∈ rest ∧ FileD w o1 "O" "A" 0 "" ∧ (d1 == sysModules) = false) ∧ (∃ o2, (d2, o2) ∈ rest ∧ FileD w o2 "I" "B" 0 "" ∧ (d2 == sysModules) = false) ∧ (∃ o3 buf, (d3, o3) ∈ rest ∧ FileD w o3 "R" "C" 8 buf ∧ (d3 == sysModules) = false)
  fi : ∃ oF tfB tfA tfC, (dF, oF) ∈ rest ∧ oF.IsDictOf (PySem.strKind RW.row.prog w) [("B", .str "" tfB), ("A", .str "" tfA), ("C", .str "" tfC)] ∧ (dF == sysModules) = false
  ar : ∃ oA G dG HL esG nG cH th tgb, (dA, oA) ∈ rest ∧ oA.IsDictOf (PySem.strKind RW.row.prog w) [("G", .ref G)] ∧ (dA == sysModules) = false ∧ (G, instObj 237 dG) ∈ rest ∧ (dG, dictOf esG nG) ∈ rest ∧ (HL, listOf #[.int 3 th] cH) ∈ rest ∧
    getL "highs" esG = some (some (.ref HL)) ∧ getL "base" esG = some (some (.int 0 tgb))
  pl : ∃ cP, (PL, listOf #[] cP) ∈ rest
  ne : ∀ q ∈ rest, ¬ q.1 = dW
  nW : ¬ W = dW
  nC : ¬ C = dW
  ndC : ¬ dC = dW
def WK (w : World) (W C : Addr) (own : List (Addr × Obj)) (f : Addr) (code : Str) : Prop :=
  ∀ dW dC dO dF dA PL rest, CX w W dW C dC dO dF dA PL rest → (∀ q ∈ own, q ∈ rest) → ItemOK w W dW C dC dO dF dA PL rest f code
theorem WK.mono {w : World} {W C : Addr} {own own' : List (Addr × Obj)} {f : Addr} {code : Str} (h : WK w W C own f code) (hs : ∀ q ∈ own, q ∈ own') : WK w W C own' f code := fun dW dC dO dF dA PL rest hx ho => h dW dC dO dF dA PL rest hx fun q hq => ho q (hs q hq)
/-- an item of the list of works: its pair's place, its lambda's place, its code -/
structure ItOK (w : World) (W C : Addr) (own : List (Addr × Obj)) (i : Addr × Addr × Str) : Prop where
  pair : ∃ oT tc nt, (i.1, oT) ∈ own ∧ oT.cls = .type "tuple" ∧ oT.data = .seq #[.str i.2.2 tc, .ref i.2.1] nt
  fn : ∃ oc0 od0 fd0 sl0, (i.2.1, (⟨oc0, od0, .func fd0, sl0⟩ : Obj)) ∈ own
  wk : WK w W C own i.2.1 i.2.2
theorem ItOK.mono {w : World} {W C : Addr} {own own' : List (Addr × Obj)} {i : Addr × Addr × Str} (h : ItOK w W C own i) (hs : ∀ q ∈ own, q ∈ own') : ItOK w W C own' i := by
  obtain ⟨⟨oT, tc, nt, a, b, c⟩, ⟨oc0, od0, fd0, sl0, d⟩, e⟩ := h
  exact ⟨⟨oT, tc, nt, hs _ a, b, c⟩, ⟨oc0, od0, fd0, sl0, hs _ d⟩, e.mono hs⟩
def ItemsOk (w : World) (W C : Addr) (own : List (Addr × Obj)) (its : List (Addr × Addr × Str)) : Prop := ∀ i ∈ its, ItOK w W C own i
theorem items_of {own own' : List (Addr × Obj)} {qual : Str} {Wp : Addr → Str → Prop} (hs : ∀ q ∈ own, q ∈ own') : ∀ {ds : List LamD} {Ts : List Addr}, LamIts own qual ds Ts →
    (∀ d ∈ ds, ∀ f c' oc vs t pm ctv, (f, kla_obj "<lambda>" qual d.params d.body d.scope d.clos pm c' ctv) ∈ own' → (c', oc) ∈ own' → oc.data = .fields vs → vs[1]? = some (.str qual t) → Wp f d.code) →
    ∃ its : List (Addr × Addr × Str), its.map (·.1) = Ts ∧ its.map (·.2.2) = ds.map (·.code) ∧ ∀ i ∈ its, (∃ oT tc nt, (i.1, oT) ∈ own' ∧ oT.cls = .type "tuple" ∧ oT.data = .seq #[.str i.2.2 tc, .ref i.2.1] nt) ∧ (∃ oc0 od0 fd0 sl0, (i.2.1, (⟨oc0, od0, .func fd0, sl0⟩ : Obj)) ∈ own') ∧ Wp i.2.1 i.2.2
  | [], [], _, _ => ⟨[], rfl, rfl, fun i hi => nomatch hi⟩
  | d :: ds, T :: Ts, h, hw => by
    obtain ⟨its, e1, e2, e3⟩ := items_of hs h.2 (fun d' hd' => hw d' (.tail _ hd'))
    obtain ⟨f, c', oc, vs, t, pm, ctv, tc, oT, nt, a1, a2, a3, a4, a5, a6, a7⟩ := h.1
    refine ⟨(T, f, d.code) :: its, by rw [List.map_cons, e1], by rw [List.map_cons, List.map_cons, e2], fun i hi => ?_⟩
    rcases List.mem_cons.mp hi with rfl | hi
    · exact ⟨⟨oT, tc, nt, hs _ a1, a2, a3⟩, ⟨_, _, _, _, hs _ a4⟩, hw d (.head _) f c' oc vs t pm ctv (hs _ a4) (hs _ a5) a6 a7⟩
    · exact e3 i hi
  | [], _ :: _, h, _ => h.elim
  | _ :: _, [], h, _ => h.elim
end
section
open PySem.Calls PySem.Spec PyProof.Rows.LCg

/-- nothing caught -/
def plainA (A : Around) : Around := { A with handled := none }
/-- at most n frames below, and nothing caught -/
def Room (n : Nat) (A : Around) : Prop := A.depth ≤ n ∧ A.handled = none ∧ A.units ≤ 3 * n
theorem Room.deeper {n : Nat} {A : Around} (h : Room n A) (env : Env) : Room (n + 1) (A.deeper env) := ⟨Nat.succ_le_succ h.1, h.2.1, Nat.add_le_add_right h.2.2 3⟩
theorem Room.room {n : Nat} {A : Around} (h : Room n A) (hn : 3 * n + 64 < cLine) : A.units + 64 < cLine := Nat.lt_of_le_of_lt (Nat.add_le_add_right h.2.2 64) hn
theorem Room.lt {n : Nat} {A : Around} {k : Nat} (h : Room n A) (hn : n + k < recursionLimit) : A.depth + k < recursionLimit := Nat.lt_of_le_of_lt (Nat.add_le_add_right h.1 k) hn

/-- a tree that raises BasicError(code), wherever it is run with the ledger ls -/
def RaisesK (n : Nat) (w : World) (ls : List (Addr × Obj)) (t : Sem Value) (code : Str) : Prop :=
  ∀ ⦃A : Around⦄ ⦃base h₀ : Heap⦄ ⦃outer : List Env⦄ ⦃env : Env⦄ ⦃L : Addr⦄ ⦃m mg mb : Str → Option Value⦄ ⦃p : Program⦄ ⦃loose : List Str⦄ ⦃mean : ExcName → Option Value⦄ ⦃s : Shared⦄ ⦃Q E : Value → Shared → Prop⦄,
    Room n A → Below A base outer h₀ → Fr h₀ L s.heap m → (hd.heap_1_39 w.params).In h₀ → Top p loose mean mg mb h₀ → env.frame = some L → env.scope.kind = .function → News h₀ L s.heap ls →
    (∀ g h' tk e dx tc ls', (∀ q ∈ ls, q ∈ ls') → Fr h₀ L g m → RaisedB base (env :: outer) e dx (.str code tc) ls' h' → g.UpToSlots h' → E (.ref e) { s with heap := h', toks := tk }) →
    wpAny (model RW.row.prog w) (A.deeper env) t Q E s
/-- a tree that gives a value of P back, wherever it is run with the ledger ls -/
def GivesK (n : Nat) (w : World) (ls : List (Addr × Obj)) (t : Sem Value) (P : Value → Prop) : Prop :=
  ∀ ⦃A : Around⦄ ⦃base h₀ : Heap⦄ ⦃outer : List Env⦄ ⦃env : Env⦄ ⦃L : Addr⦄ ⦃m mg mb : Str → Option Value⦄ ⦃p : Program⦄ ⦃loose : List Str⦄ ⦃mean : ExcName → Option Value⦄ ⦃s : Shared⦄ ⦃Q E : Value → Shared → Prop⦄,
    Room n A → Below A base outer h₀ → Fr h₀ L s.heap m → (hd.heap_1_39 w.params).In h₀ → Top p loose mean mg mb h₀ → env.frame = some L → env.scope.kind = .function → News h₀ L s.heap ls →
    (∀ v h' tk, P v → Fr h₀ L h' m → News h₀ L h' ls → Q v { s with heap := h', toks := tk }) →
    wpAny (model RW.row.prog w) (A.deeper env) t Q E s

section
variable {n : Nat} {w : World} {ls : List (Addr × Obj)} {code : Str} {f : Addr} {args : List Value} {binds : List (Str × Value)} {name qual : Str} {params : Arguments} {body : List Stmt} {scope : Scope} {dV kV doc pm cdv ct oc : Value} {an od : Option Addr} {osl : Array (Option Value)}
theorem def_raises (ho : (hd.heap_1_39 w.params).lookup f = some ⟨oc, od, .func (fnOf name qual params body scope dV kV doc pm an cdv ct), osl⟩) (hcd : codeIn (hd.heap_1_39 w.params) cdv qual = true)
    (hbind : ∀ s, (hd.heap_1_39 w.params).In s.heap → BindsTo s (fnOf name qual params body scope dV kV doc pm an cdv ct) ⟨args, []⟩ binds) (hloc : ∀ y ∈ binds, scope.names.lookup y.1 = some .local)
    (hco : scope.isCoroutine = false) (hgen : scope.isGenerator = false) (hk : scope.kind = .function) (hcell : ∀ x ∈ scope.names, x.2 ≠ .cell) (hn : n + 1 < recursionLimit)
    (h : ∀ {A : Around} {base g : Heap} {outer : List Env} {L : Addr} {mg mb : Str → Option Value} {p : Program} {loose : List Str} {mean : ExcName → Option Value} {s : Shared} {Q : Flow → Shared → Prop} {E : Value → Shared → Prop},
      Room (n + 1) (plainA A) → Below (plainA A) base outer g → Fr g L s.heap (fun y => binds.reverse.lookup y) → (hd.heap_1_39 w.params).In g → Top p loose mean mg mb g → News g L s.heap ls → PassesOwn (model RW.row.prog w) ((plainA A).deeper (envOf qual scope L f cdv)) (envOf qual scope L f cdv) E →
      (∀ {m'} h h' tk e dx tc ls', Fr g L h m' → News g L h ls' → MadeB h h' e dx (.str code tc) → (∀ q ∈ ls, q ∈ ls') → E (.ref e) { s with heap := h', toks := tk }) →
      (∀ {m'} gg h' tk e dx tc ls', (∀ q ∈ ls, q ∈ ls') → Fr g L gg m' → RaisedB base (envOf qual scope L f cdv :: outer) e dx (.str code tc) ls' h' → gg.UpToSlots h' → E (.ref e) { s with heap := h', toks := tk }) →
      wpAny (model RW.row.prog w) ((plainA A).deeper (envOf qual scope L f cdv)) (execs body (envOf qual scope L f cdv)) Q E s) : RaisesK n w ls (call (.ref f) args) code := by
  rintro ⟨_, _, _, _, _⟩ base h₀ outer env L m mg mb p loose mean s Q E ⟨hdp, rfl, hun⟩ B F X T hf hke N hE
  have hr : Room n _ := ⟨hdp, rfl, hun⟩
  refine wpAny_call (code_def B F X N T (Around.frames_deeper B.stack) hf hke ho hcd ((hr.deeper env).lt (k := 0) hn) (hbind s (X.keeps F.keep)) hloc (fun g L' h₁ FG F' N' B' X' T' => ?_) hco hgen hk hcell)
  refine h (A := Around.deeper _ env) (s := { s with heap := h₁, toks := s.toks + binds.length }) (hr.deeper env) B' F' X' T' N' (by passes_own) (fun h2 h3 tk e dx tc ls' F2 N2 M hs => ?_) (fun g2 h3 tk e dx tc ls' hs F2 R U => ?_)
  · exact leave_newB B' M F2 N2 rfl hk (fun h4 R4 U4 => hE g h4 tk e dx tc ls' hs FG R4 U4)
  · exact leave_onB B' F2 R U rfl (fun h4 R4 U4 => hE g h4 tk e dx tc ls' hs FG R4 U4)
theorem def_gives {P : Value → Prop} (ho : (hd.heap_1_39 w.params).lookup f = some ⟨oc, od, .func (fnOf name qual params body scope dV kV doc pm an cdv ct), osl⟩) (hcd : codeIn (hd.heap_1_39 w.params) cdv qual = true)
    (hbind : ∀ s, (hd.heap_1_39 w.params).In s.heap → BindsTo s (fnOf name qual params body scope dV kV doc pm an cdv ct) ⟨args, []⟩ binds) (hloc : ∀ y ∈ binds, scope.names.lookup y.1 = some .local)
    (hco : scope.isCoroutine = false) (hgen : scope.isGenerator = false) (hk : scope.kind = .function) (hcell : ∀ x ∈ scope.names, x.2 ≠ .cell) (hn : n + 1 < recursionLimit)
    (h : ∀ {A : Around} {base g : Heap} {outer : List Env} {L : Addr} {mg mb : Str → Option Value} {p : Program} {loose : List Str} {mean : ExcName → Option Value} {s : Shared} {Q : Flow → Shared → Prop} {E : Value → Shared → Prop},
      Room (n + 1) (plainA A) → Below (plainA A) base outer g → Fr g L s.heap (fun y => binds.reverse.lookup y) → (hd.heap_1_39 w.params).In g → Top p loose mean mg mb g → News g L s.heap ls → PassesOwn (model RW.row.prog w) ((plainA A).deeper (envOf qual scope L f cdv)) (envOf qual scope L f cdv) E →
      (∀ {m'} v h' tk ls', P v → Fr g L h' m' → News g L h' ls' → (∀ q ∈ ls, q ∈ ls') → Q (.ret v) { s with heap := h', toks := tk }) →
      wpAny (model RW.row.prog w) ((plainA A).deeper (envOf qual scope L f cdv)) (execs body (envOf qual scope L f cdv)) Q E s) : GivesK n w ls (call (.ref f) args) P := by
  rintro ⟨_, _, _, _, _⟩ base h₀ outer env L m mg mb p loose mean s Q E ⟨hdp, rfl, hun⟩ B F X T hf hke N hQ
  have hr : Room n _ := ⟨hdp, rfl, hun⟩
  refine wpAny_call (code_def B F X N T (Around.frames_deeper B.stack) hf hke ho hcd ((hr.deeper env).lt (k := 0) hn) (hbind s (X.keeps F.keep)) hloc (fun g L' h₁ FG F' N' B' X' T' => ?_) hco hgen hk hcell)
  refine h (A := Around.deeper _ env) (s := { s with heap := h₁, toks := s.toks + binds.length }) (hr.deeper env) B' F' X' T' N' (by passes_own) (fun v h' tk ls' hv F2 N2 hs => ?_)
  exact leaveK_ F2 (pickN N2 hs) (fun F3 N3 => hQ v h' tk hv F3 N3)
end

section
variable {M : Model} {A : Around} {E : Value → Shared → Prop} {s' : Shared} {base g h : Heap} {outer : List Env} {L e dx : Addr} {m : Str → Option Value} {env : Env} {Q : Unit → Shared → Prop} {news : List (Addr × Obj)} {code : Value}
theorem leave_newG (K : Below A base outer g) (hx : MadeB h s'.heap e dx code) (F : Fr g L h m) (N : ∀ q ∈ news, h.get? q.1 = some q.2 ∧ q.1 ∉ (env :: outer).filterMap (·.frame) ∧ base.get? q.1 = none) (hf : env.frame = some L) (hk : env.scope.kind = .function)
    (hQ : ∀ h', RaisedB base outer e dx code news h' → g.UpToSlots h' → Q () { s' with heap := h' }) : wpAny M (A.deeper env) (leaving env (.ref e)) Q E s' := by
  have K' := pushX K F hf hk
  have hin : ∀ env' ∈ (env :: outer), ∀ b, env'.frame = some b → b ∈ (env :: outer).filterMap (·.frame) := fun env' he b hb => List.mem_filterMap.mpr ⟨env', he, hb⟩
  have st : base.StaysIn (hideAll h ((env :: outer).filterMap (·.frame))) := fun b o q => hideAll_get _ (K'.stays b o q) fun hm => by
    rw [(K'.frames.mem hm).1] at q; cases q
  have hl : ∀ q ∈ news, (hideAll h ((env :: outer).filterMap (·.frame))).get? q.1 = some q.2 ∧ base.get? q.1 = none := fun q hq => ⟨hideAll_get _ (N q hq).1 (N q hq).2.1, (N q hq).2.2⟩
  exact leaveD_made K'.stack hf (fun b o q => of_hideAll _ q) (funFrames_hide K'.frames hin) hx fun h' x1 x2 =>
    hQ h' ⟨_, st, hl, x1⟩ (((Heap.UpToSlots.of_keeps F.keep).trans (Heap.UpToSlots.of_keeps hx.keeps)).trans x2)
end
section
variable {n : Nat} {w : World} {ls : List (Addr × Obj)} (ls0 : List (Addr × Obj)) {code : Str} {f : Addr} {args : List Value} {binds : List (Str × Value)} {name qual : Str} {params : Arguments} {body : List Stmt} {scope : Scope} {dV kV doc pm cdv ct oc : Value} {an od : Option Addr} {osl : Array (Option Value)}
/-- the same with a part of the ledger alone at hand -/
theorem def_raises_sub (ho : (hd.heap_1_39 w.params).lookup f = some ⟨oc, od, .func (fnOf name qual params body scope dV kV doc pm an cdv ct), osl⟩) (hcd : codeIn (hd.heap_1_39 w.params) cdv qual = true)
    (hbind : ∀ s, (hd.heap_1_39 w.params).In s.heap → BindsTo s (fnOf name qual params body scope dV kV doc pm an cdv ct) ⟨args, []⟩ binds) (hloc : ∀ y ∈ binds, scope.names.lookup y.1 = some .local)
    (hco : scope.isCoroutine = false) (hgen : scope.isGenerator = false) (hk : scope.kind = .function) (hcell : ∀ x ∈ scope.names, x.2 ≠ .cell) (hn : n + 1 < recursionLimit) (hsub : ∀ q ∈ ls0, q ∈ ls)
    (h : ∀ {A : Around} {base g : Heap} {outer : List Env} {L : Addr} {mg mb : Str → Option Value} {p : Program} {loose : List Str} {mean : ExcName → Option Value} {s : Shared} {Q : Flow → Shared → Prop} {E : Value → Shared → Prop},
      Room (n + 1) (plainA A) → Below (plainA A) base outer g → Fr g L s.heap (fun y => binds.reverse.lookup y) → (hd.heap_1_39 w.params).In g → Top p loose mean mg mb g → News g L s.heap ls0 → PassesOwn (model RW.row.prog w) ((plainA A).deeper (envOf qual scope L f cdv)) (envOf qual scope L f cdv) E →
      (∀ {m'} h h' tk e dx tc ls', Fr g L h m' → News g L h ls' → MadeB h h' e dx (.str code tc) → (∀ q ∈ ls0, q ∈ ls') → E (.ref e) { s with heap := h', toks := tk }) →
      wpAny (model RW.row.prog w) ((plainA A).deeper (envOf qual scope L f cdv)) (execs body (envOf qual scope L f cdv)) Q E s) : RaisesK n w ls (call (.ref f) args) code := by
  rintro ⟨_, _, _, _, _⟩ base h₀ outer env L m mg mb p loose mean s Q E ⟨hdp, rfl, hun⟩ B F X T hf hke N hE
  have hr : Room n _ := ⟨hdp, rfl, hun⟩
  have N0 : News h₀ L s.heap ls0 := pickN N hsub
  obtain ⟨FG, BG, st, lv⟩ := groundX (R := fun _ _ => True) B F N0 (Around.frames_deeper B.stack) hf hke
  refine wpAny_call (codeAny_call_def (fd := fnOf name qual params body scope dV kV doc pm an cdv ct) (body := body) (binds := binds) ((hr.deeper env).lt (k := 0) hn) ((X.keeps F.keep) _ _ ho) rfl (T.nolimit.keeps F.keep) (codeRec_of (X.keeps F.keep) hcd) rfl (hbind s (X.keeps F.keep)) hcell hloc (fun h₁ hns hk₁ => ?_) hco hgen hk)
  have szG : (hideAll s.heap (ls0.map (·.1))).objs.size = s.heap.objs.size := hideAll_size _ _
  refine h (A := Around.deeper _ env) (s := { s with heap := h₁, toks := s.toks + binds.length }) (hr.deeper env) BG ⟨hns, fun b o e => hk₁ b o (of_hideAll _ e), Nat.le_of_eq szG⟩ (X.keeps st) (T.keeps st)
    (fun q hq => ⟨hk₁ _ _ (N0 q hq).1, Nat.ne_of_lt (Heap.lt_size (N0 q hq).1), hideAll_none _ (List.mem_map_of_mem hq)⟩) (by passes_own) (fun h2 h3 tk e dx tc ls' F2 N2 M hs => ?_)
  · refine leave_newG (news := ls) BG M F2 (fun q hq => ?_) rfl hk (fun h4 R4 U4 => hE _ h4 tk e dx tc ls (fun q hq => hq) FG R4 U4)
    have b0 := fresh_of_stays B.stays (N q hq).2.2
    by_cases hm : q.1 ∈ ls0.map (·.1)
    · have z := N2 q (hs _ (listed N hsub hq hm))
      refine ⟨z.1, fun hx => ?_, b0⟩
      obtain ⟨env', he, hf'⟩ := List.mem_filterMap.mp hx
      rcases List.mem_cons.mp he with rfl | he
      · exact z.2.1 (Option.some.inj hf').symm
      · obtain ⟨o, ho, _⟩ := (BG.frames.mem (List.mem_filterMap.mpr ⟨env', he, hf'⟩)).2
        rw [z.2.2] at ho; cases ho
    · have z := hideAll_get (ls0.map (·.1)) (N q hq).1 hm
      refine ⟨F2.keep _ _ z, fun hx => ?_, b0⟩
      obtain ⟨env', he, hf'⟩ := List.mem_filterMap.mp hx
      rcases List.mem_cons.mp he with rfl | he
      · exact absurd (Heap.lt_size (N q hq).1) (by rw [← Option.some.inj hf']; exact Nat.lt_irrefl _)
      rcases List.mem_cons.mp he with rfl | he
      · exact (N q hq).2.1 (Option.some.inj (hf.symm.trans hf')).symm
      · obtain ⟨o, ho, _⟩ := (B.frames.mem (List.mem_filterMap.mpr ⟨env', he, hf'⟩)).2
        rw [(N q hq).2.2] at ho; cases ho
/-- the same for a def whose locals are captured -/
theorem def_raisesC_sub (ho : (hd.heap_1_39 w.params).lookup f = some ⟨oc, od, .func (fnOf name qual params body scope dV kV doc pm an cdv ct), osl⟩) (hcd : codeIn (hd.heap_1_39 w.params) cdv qual = true)
    (hbind : ∀ s, (hd.heap_1_39 w.params).In s.heap → BindsTo s (fnOf name qual params body scope dV kV doc pm an cdv ct) ⟨args, []⟩ binds) (hkind : (binds.all fun y => scope.names.lookup y.1 == some .local || scope.names.lookup y.1 == some .cell) = true)
    (hnd : ((cellsFrom 0 scope.names []).map (·.1)).Nodup)
    (hco : scope.isCoroutine = false) (hgen : scope.isGenerator = false) (hk : scope.kind = .function) (hn : n + 1 < recursionLimit) (hsub : ∀ q ∈ ls0, q ∈ ls)
    (h : ∀ {A : Around} {base g : Heap} {outer : List Env} {L : Addr} {mg mb : Str → Option Value} {p : Program} {loose : List Str} {mean : ExcName → Option Value} {s : Shared} {Q : Flow → Shared → Prop} {E : Value → Shared → Prop} {cells : List (Addr × Obj)},
      Room (n + 1) (plainA A) → Below (plainA A) base outer g → Fr g L s.heap (bindL (envOfC qual scope L f cdv).kindOf binds fun _ => none) → (hd.heap_1_39 w.params).In g → Top p loose mean mg mb g → News g L s.heap (cells ++ ls0) →
      CellsAre (bindC (envOfC qual scope L f cdv).kindOf binds fun _ => none) (cellsFrom (L + 1) scope.names []) cells → (∀ p ∈ ls0, p.1 < L) → PassesOwn (model RW.row.prog w) ((plainA A).deeper (envOfC qual scope L f cdv)) (envOfC qual scope L f cdv) E →
      (∀ {m'} h h' tk e dx tc ls', Fr g L h m' → News g L h ls' → MadeB h h' e dx (.str code tc) → (∀ q ∈ ls0, q ∈ ls') → E (.ref e) { s with heap := h', toks := tk }) →
      wpAny (model RW.row.prog w) ((plainA A).deeper (envOfC qual scope L f cdv)) (execs body (envOfC qual scope L f cdv)) Q E s) : RaisesK n w ls (call (.ref f) args) code := by
  rintro ⟨_, _, _, _, _⟩ base h₀ outer env L m mg mb p loose mean s Q E ⟨hdp, rfl, hun⟩ B F X T hf hke N hE
  have hr : Room n _ := ⟨hdp, rfl, hun⟩
  have N0 : News h₀ L s.heap ls0 := pickN N hsub
  obtain ⟨FG, BG, st, lv⟩ := groundX (R := fun _ _ => True) B F N0 (Around.frames_deeper B.stack) hf hke
  refine wpAny_call (codeAny_call_function (fd := fnOf name qual params body scope dV kV doc pm an cdv ct) ((hr.deeper env).lt (k := 0) hn) ((X.keeps F.keep) _ _ ho) rfl hco hgen rfl (codeRec_of (X.keeps F.keep) hcd) (hbind s (X.keeps F.keep) _ _ _ _ ?_))
  refine wpAny_newFunctionEnv_cells hk (kindsX hkind _) fun env' he s' x => ?_
  subst he
  refine ⟨(T.nolimit.keeps F.keep).keeps x.toInCall.keep, codeAny_func ?_⟩
  obtain ⟨h₁, tk, rfl, _⟩ := x.done
  have hk₁ := x.toInCall.keep
  obtain ⟨cells, NC, Y⟩ := Cl.news (h₀ := s.heap) (Nat.le_refl _) fun n c hm => ⟨x.cell n c (lookup_of_mem_nodup (cellsFrom_names scope.names 0 (s.heap.objs.size + 1) [] [] rfl ▸ hnd) hm), x.above n c hm⟩
  have szG : (hideAll s.heap (ls0.map (·.1))).objs.size = s.heap.objs.size := hideAll_size _ _
  refine h (A := Around.deeper _ env) (s := { s with heap := h₁, toks := tk }) (hr.deeper env) BG ⟨x.toInCall.ns, fun b o e => hk₁ b o (of_hideAll _ e), Nat.le_of_eq szG⟩ (X.keeps st) (T.keeps st) (fun p hp => ?_) Y (fun p hp => Heap.lt_size (N0 p hp).1) (by passes_own) (fun h2 h3 tk e dx tc ls' F2 N2 M hs => ?_)
  · rcases List.mem_append.mp hp with hp | hp
    · refine ⟨(NC p hp).1, (NC p hp).2.1, ?_⟩
      cases q : (hideAll s.heap (ls0.map (·.1))).get? p.1 with
      | none => rfl
      | some o => have := of_hideAll _ q; rw [(NC p hp).2.2] at this; cases this
    · exact ⟨hk₁ _ _ (N0 p hp).1, Nat.ne_of_lt (Heap.lt_size (N0 p hp).1), hideAll_none _ (List.mem_map_of_mem hp)⟩
  · refine leave_newG (news := ls) BG M F2 (fun q hq => ?_) rfl hk (fun h4 R4 U4 => hE _ h4 tk e dx tc ls (fun q hq => hq) FG R4 U4)
    have b0 := fresh_of_stays B.stays (N q hq).2.2
    by_cases hm : q.1 ∈ ls0.map (·.1)
    · have z := N2 q (hs _ (listed N hsub hq hm))
      refine ⟨z.1, fun hx => ?_, b0⟩
      obtain ⟨env', he, hf'⟩ := List.mem_filterMap.mp hx
      rcases List.mem_cons.mp he with rfl | he
      · exact z.2.1 (Option.some.inj hf').symm
      · obtain ⟨o, ho, _⟩ := (BG.frames.mem (List.mem_filterMap.mpr ⟨env', he, hf'⟩)).2
        rw [z.2.2] at ho; cases ho
    · have z := hideAll_get (ls0.map (·.1)) (N q hq).1 hm
      refine ⟨F2.keep _ _ z, fun hx => ?_, b0⟩
      obtain ⟨env', he, hf'⟩ := List.mem_filterMap.mp hx
      rcases List.mem_cons.mp he with rfl | he
      · exact absurd (Heap.lt_size (N q hq).1) (by rw [← Option.some.inj hf']; exact Nat.lt_irrefl _)
      rcases List.mem_cons.mp he with rfl | he
      · exact (N q hq).2.1 (Option.some.inj (hf.symm.trans hf')).symm
      · obtain ⟨o, ho, _⟩ := (B.frames.mem (List.mem_filterMap.mpr ⟨env', he, hf'⟩)).2
        rw [(N q hq).2.2] at ho; cases ho
theorem def_gives_sub {P : Value → Prop} (ho : (hd.heap_1_39 w.params).lookup f = some ⟨oc, od, .func (fnOf name qual params body scope dV kV doc pm an cdv ct), osl⟩) (hcd : codeIn (hd.heap_1_39 w.params) cdv qual = true)
    (hbind : ∀ s, (hd.heap_1_39 w.params).In s.heap → BindsTo s (fnOf name qual params body scope dV kV doc pm an cdv ct) ⟨args, []⟩ binds) (hloc : ∀ y ∈ binds, scope.names.lookup y.1 = some .local)
    (hco : scope.isCoroutine = false) (hgen : scope.isGenerator = false) (hk : scope.kind = .function) (hcell : ∀ x ∈ scope.names, x.2 ≠ .cell) (hn : n + 1 < recursionLimit) (hsub : ∀ q ∈ ls0, q ∈ ls)
    (h : ∀ {A : Around} {base g : Heap} {outer : List Env} {L : Addr} {mg mb : Str → Option Value} {p : Program} {loose : List Str} {mean : ExcName → Option Value} {s : Shared} {Q : Flow → Shared → Prop} {E : Value → Shared → Prop},
      Room (n + 1) (plainA A) → Below (plainA A) base outer g → Fr g L s.heap (fun y => binds.reverse.lookup y) → (hd.heap_1_39 w.params).In g → Top p loose mean mg mb g → News g L s.heap ls0 → PassesOwn (model RW.row.prog w) ((plainA A).deeper (envOf qual scope L f cdv)) (envOf qual scope L f cdv) E →
      (∀ {m'} v h' tk ls', P v → Fr g L h' m' → News g L h' ls' → (∀ q ∈ ls0, q ∈ ls') → Q (.ret v) { s with heap := h', toks := tk }) →
      wpAny (model RW.row.prog w) ((plainA A).deeper (envOf qual scope L f cdv)) (execs body (envOf qual scope L f cdv)) Q E s) : GivesK n w ls (call (.ref f) args) P := by
  rintro ⟨_, _, _, _, _⟩ base h₀ outer env L m mg mb p loose mean s Q E ⟨hdp, rfl, hun⟩ B F X T hf hke N hQ
  have hr : Room n _ := ⟨hdp, rfl, hun⟩
  refine wpAny_call (law_def B F X T N hsub (Around.frames_deeper B.stack) hf hke ho hcd ((hr.deeper env).lt (k := 0) hn) (hbind s (X.keeps F.keep)) hloc (fun g L' h₁ hg F' N' B' X' T' => ?_) hco hgen hk hcell)
  refine h (A := Around.deeper _ env) (s := { s with heap := h₁, toks := s.toks + binds.length }) (hr.deeper env) B' F' X' T' N' (by passes_own) (fun v h' tk ls' hv F2 N2 hs => ?_)
  refine ⟨_, _, ls', F2, N2, fun Fh Hq => hQ v h' tk hv Fh (fun q hq => Hq q ?_)⟩
  by_cases hm : q.1 ∈ ls0.map (·.1)
  · exact .inl (hs _ (listed N hsub hq hm))
  · exact .inr ⟨hq, hm⟩
/-- the same, the end without a return too -/
theorem def_givesE_sub {P : Value → Prop} (ho : (hd.heap_1_39 w.params).lookup f = some ⟨oc, od, .func (fnOf name qual params body scope dV kV doc pm an cdv ct), osl⟩) (hcd : codeIn (hd.heap_1_39 w.params) cdv qual = true)
    (hbind : ∀ s, (hd.heap_1_39 w.params).In s.heap → BindsTo s (fnOf name qual params body scope dV kV doc pm an cdv ct) ⟨args, []⟩ binds) (hloc : ∀ y ∈ binds, scope.names.lookup y.1 = some .local)
    (hco : scope.isCoroutine = false) (hgen : scope.isGenerator = false) (hk : scope.kind = .function) (hcell : ∀ x ∈ scope.names, x.2 ≠ .cell) (hn : n + 1 < recursionLimit) (hsub : ∀ q ∈ ls0, q ∈ ls)
    (h : ∀ {A : Around} {base g : Heap} {outer : List Env} {L : Addr} {mg mb : Str → Option Value} {p : Program} {loose : List Str} {mean : ExcName → Option Value} {s : Shared} {Q : Flow → Shared → Prop} {E : Value → Shared → Prop},
      Room (n + 1) (plainA A) → Below (plainA A) base outer g → Fr g L s.heap (fun y => binds.reverse.lookup y) → (hd.heap_1_39 w.params).In g → Top p loose mean mg mb g → News g L s.heap ls0 → PassesOwn (model RW.row.prog w) ((plainA A).deeper (envOf qual scope L f cdv)) (envOf qual scope L f cdv) E →
      (∀ {m'} (fl : Flow) h' tk ls', P (match fl with | .ret v => v | _ => .none) → Fr g L h' m' → News g L h' ls' → (∀ q ∈ ls0, q ∈ ls') → Q fl { s with heap := h', toks := tk }) →
      wpAny (model RW.row.prog w) ((plainA A).deeper (envOf qual scope L f cdv)) (execs body (envOf qual scope L f cdv)) Q E s) : GivesK n w ls (call (.ref f) args) P := by
  rintro ⟨_, _, _, _, _⟩ base h₀ outer env L m mg mb p loose mean s Q E ⟨hdp, rfl, hun⟩ B F X T hf hke N hQ
  have hr : Room n _ := ⟨hdp, rfl, hun⟩
  refine wpAny_call (law_def B F X T N hsub (Around.frames_deeper B.stack) hf hke ho hcd ((hr.deeper env).lt (k := 0) hn) (hbind s (X.keeps F.keep)) hloc (fun g L' h₁ hg F' N' B' X' T' => ?_) hco hgen hk hcell)
  refine h (A := Around.deeper _ env) (s := { s with heap := h₁, toks := s.toks + binds.length }) (hr.deeper env) B' F' X' T' N' (by passes_own) (fun fl h' tk ls' hv F2 N2 hs => ?_)
  refine ⟨_, _, ls', F2, N2, fun Fh Hq => hQ _ h' tk hv Fh (fun q hq => Hq q ?_)⟩
  by_cases hm : q.1 ∈ ls0.map (·.1)
  · exact .inl (hs _ (listed N hsub hq hm))
  · exact .inr ⟨hq, hm⟩
end
section
variable {n : Nat} {w : World} {A : Around} {h₀ : Heap} {L a : Addr} {cn : Str} {cs : Scope} {ccd : Value} {cl : List (Str × Addr)} {m mg mb : Str → Option Value} {p : Program} {loose : List Str} {mean : ExcName → Option Value} {s : Shared}
theorem raise_lit {np cpos kpos pos : Pos} {kk : Nat} {code : Str} {Q : Flow → Shared → Prop} {E : Value → Shared → Prop} (hr : Room n A) (F : Fr h₀ L s.heap m) (X : (hd.heap_1_39 w.params).In h₀) (T : Top p loose mean mg mb h₀)
    (h : ∀ h' tk e dx, MadeB s.heap h' e dx (.str code s.toks) → E (.ref e) { s with heap := h', toks := tk }) (hn : n + 5 < recursionLimit) (hk : cs.kind = .function) (hx : (envX cn cs L a ccd cl).kindOf "BasicError" = some .globalImplicit) :
    wpAny (model RW.row.prog w) A (exec (.Raise (some (.Call (.Name "BasicError" np) [.Constant (.str code) kk kpos] [] cpos)) none pos) (envX cn cs L a ccd cl)) Q E s := by
  revert X; k_fill; intro X
  refine raise_K F X hr.2.1 (Call_ (nameX_K F X (topRead_of T) (show nsIn (hd.heap_1_39 w.params) mainGlobals "BasicError" = some (some (.ref 34)) from by k_is) ?_ hk hx))
  refine callWith_K (K := hd.heap_1_39 w.params) X (by k_is) (args_cons (Constant_str (args_nil ⟨X.keeps F.keep, ?_⟩)))
  refine bx_make (s := { s with toks := s.toks + 1 }) F X T (hr.lt hn) (Nat.zero_le _) (fun h' tk e dx M => ?_)
  exact raisesB_K F M (h h' tk e dx M)
end

/-- what the works read, over one ledger -/
structure CW (w : World) (W dW C dC dO dF dA PL : Addr) (esW esC : List DictEntry) (nW nC : Nat) (ls : List (Addr × Obj)) : Prop where
  mW : (W, instObj 386 dW) ∈ ls
  mdW : (dW, dictOf esW nW) ∈ ls
  mC : (C, instObj 138 dC) ∈ ls
  mdC : (dC, dictOf esC nC) ∈ ls
  wf : WF dO dF dA esW
  cf : CF PL esC
  op : ∃ oO d1 d2 d3, (dO, oO) ∈ ls ∧ oO.IsDictOf (PySem.intKind RW.row.prog w) [(1, .ref d1), (2, .ref d2), (3, .ref d3)] ∧ (dO == sysModules) = false ∧
    (∃ o1, (d1, o1) ∈ ls ∧ FileD w o1 "O" "A" 0 "" ∧ (d1 == sysModules) = false) ∧ (∃ o2, (d2, o2) ∈ ls ∧ FileD w o2 "I" "B" 0 "" ∧ (d2 == sysModules) = false) ∧ (∃ o3 buf, (d3, o3) ∈ ls ∧ FileD w o3 "R" "C" 8 buf ∧ (d3 == sysModules) = false)
  fi : ∃ oF tfB tfA tfC, (dF, oF) ∈ ls ∧ oF.IsDictOf (PySem.strKind RW.row.prog w) [("B", .str "" tfB), ("A", .str "" tfA), ("C", .str "" tfC)] ∧ (dF == sysModules) = false
  ar : ∃ oA G dG HL esG nG cH th tgb, (dA, oA) ∈ ls ∧ oA.IsDictOf (PySem.strKind RW.row.prog w) [("G", .ref G)] ∧ (dA == sysModules) = false ∧ (G, instObj 237 dG) ∈ ls ∧ (dG, dictOf esG nG) ∈ ls ∧ (HL, listOf #[.int 3 th] cH) ∈ ls ∧
    getL "highs" esG = some (some (.ref HL)) ∧ getL "base" esG = some (some (.int 0 tgb))
  pl : ∃ cP, (PL, listOf #[] cP) ∈ ls
theorem CX.toCW {w : World} {W dW C dC dO dF dA PL : Addr} {esW esC : List DictEntry} {nW nC : Nat} {rest ls : List (Addr × Obj)} (X : CX w W dW C dC dO dF dA PL rest) (hw : WF dO dF dA esW) (hc : CF PL esC)
    (m : (W, instObj 386 dW) ∈ ls ∧ (dW, dictOf esW nW) ∈ ls ∧ (C, instObj 138 dC) ∈ ls ∧ (dC, dictOf esC nC) ∈ ls) (hs : ∀ q ∈ rest, q ∈ ls) : CW w W dW C dC dO dF dA PL esW esC nW nC ls := by
  obtain ⟨⟨oO, d1, d2, d3, a1, a2, a3, ⟨o1, b1, b2⟩, ⟨o2, c1, c2⟩, o3, buf, e1, e2⟩, ⟨oF, tB, tA, tC, f1, f2⟩, ⟨oA, G, dG, HL, esG, nG, cH, th, tgb, g1, g2, g3, g4, g5, g6, g7⟩, ⟨cP, i1⟩, _⟩ := X
  exact ⟨m.1, m.2.1, m.2.2.1, m.2.2.2, hw, hc, ⟨oO, d1, d2, d3, hs _ a1, a2, a3, ⟨o1, hs _ b1, b2⟩, ⟨o2, hs _ c1, c2⟩, o3, buf, hs _ e1, e2⟩, ⟨oF, tB, tA, tC, hs _ f1, f2⟩, ⟨oA, G, dG, HL, esG, nG, cH, th, tgb, hs _ g1, g2, g3, hs _ g4, hs _ g5, hs _ g6, g7⟩, cP, hs _ i1⟩
section
variable {w : World} {W dW C dC dO dF dA PL : Addr} {esW esC : List DictEntry} {nW nC : Nat} {ls : List (Addr × Obj)} {P : Prop}
theorem CW.open3 (X : CW w W dW C dC dO dF dA PL esW esC nW nC ls) (k : ∀ {oO : Obj} {d1 d2 d3 : Addr} {o1 o2 o3 : Obj} {buf : Str} {t11 t12 t13 t14 t15 t16 t21 t22 t23 t24 t25 t26 t31 t32 t33 t34 t35 t36 : Tok}, (dO, oO) ∈ ls → oO.IsDictOf (PySem.intKind RW.row.prog w) [(1, .ref d1), (2, .ref d2), (3, .ref d3)] → (dO == sysModules) = false →
    (d1, o1) ∈ ls → o1.IsDictOf (PySem.strKind RW.row.prog w) [("mode", .str "O" t11), ("name", .str "A" t12), ("at", .int 0 t13), ("size", .int 0 t14), ("buffer", .str "" t15), ("record", .int 0 t16)] → (d1 == sysModules) = false →
    (d2, o2) ∈ ls → o2.IsDictOf (PySem.strKind RW.row.prog w) [("mode", .str "I" t21), ("name", .str "B" t22), ("at", .int 0 t23), ("size", .int 0 t24), ("buffer", .str "" t25), ("record", .int 0 t26)] → (d2 == sysModules) = false →
    (d3, o3) ∈ ls → o3.IsDictOf (PySem.strKind RW.row.prog w) [("mode", .str "R" t31), ("name", .str "C" t32), ("at", .int 0 t33), ("size", .int 8 t34), ("buffer", .str buf t35), ("record", .int 0 t36)] → (d3 == sysModules) = false → P) : P := by
  obtain ⟨oO, d1, d2, d3, a1, a2, a3, ⟨o1, b1, ⟨_, _, _, _, _, _, b2⟩, b3⟩, ⟨o2, c1, ⟨_, _, _, _, _, _, c2⟩, c3⟩, o3, buf, e1, ⟨_, _, _, _, _, _, e2⟩, e3⟩ := X.op
  exact k a1 a2 a3 b1 b2 b3 c1 c2 c3 e1 e2 e3
theorem CW.files (X : CW w W dW C dC dO dF dA PL esW esC nW nC ls) (k : ∀ {oF : Obj} {tfB tfA tfC : Tok}, (dF, oF) ∈ ls → oF.IsDictOf (PySem.strKind RW.row.prog w) [("B", .str "" tfB), ("A", .str "" tfA), ("C", .str "" tfC)] → (dF == sysModules) = false → P) : P := by
  obtain ⟨oF, _, _, _, a, b, c⟩ := X.fi
  exact k a b c
theorem CW.arrs (X : CW w W dW C dC dO dF dA PL esW esC nW nC ls) (k : ∀ {oA : Obj} {G dG HL : Addr} {esG : List DictEntry} {nG cH : Nat} {th tgb : Tok}, (dA, oA) ∈ ls → oA.IsDictOf (PySem.strKind RW.row.prog w) [("G", .ref G)] → (dA == sysModules) = false → (G, instObj 237 dG) ∈ ls → (dG, dictOf esG nG) ∈ ls → (HL, listOf #[.int 3 th] cH) ∈ ls →
    getL "highs" esG = some (some (.ref HL)) → getL "base" esG = some (some (.int 0 tgb)) → P) : P := by
  obtain ⟨oA, G, dG, HL, esG, nG, cH, th, tgb, a, b, c, d, e, f, g, h⟩ := X.ar
  exact k a b c d e f g h
end
theorem CW.mono {w : World} {W dW C dC dO dF dA PL : Addr} {esW esC : List DictEntry} {nW nC : Nat} {ls ls' : List (Addr × Obj)} (X : CW w W dW C dC dO dF dA PL esW esC nW nC ls) (hs : ∀ q ∈ ls, q ∈ ls') : CW w W dW C dC dO dF dA PL esW esC nW nC ls' := by
  obtain ⟨m1, m2, m3, m4, hw, hc, ⟨oO, d1, d2, d3, a1, a2, a3, ⟨o1, b1, b2⟩, ⟨o2, c1, c2⟩, o3, buf, e1, e2⟩, ⟨oF, tB, tA, tC, f1, f2⟩, ⟨oA, G, dG, HL, esG, nG, cH, th, tgb, g1, g2, g3, g4, g5, g6, g7⟩, ⟨cP, i1⟩⟩ := X
  exact ⟨hs _ m1, hs _ m2, hs _ m3, hs _ m4, hw, hc, ⟨oO, d1, d2, d3, hs _ a1, a2, a3, ⟨o1, hs _ b1, b2⟩, ⟨o2, hs _ c1, c2⟩, o3, buf, hs _ e1, e2⟩, ⟨oF, tB, tA, tC, hs _ f1, f2⟩, ⟨oA, G, dG, HL, esG, nG, cH, th, tgb, hs _ g1, g2, g3, hs _ g4, hs _ g5, hs _ g6, g7⟩, cP, hs _ i1⟩
theorem item_of {w : World} {W C f c' : Addr} {own : List (Addr × Obj)} {code qual : Str} {params : Arguments} {body : Expr} {scope : Scope} {clos : List (Str × Addr)} {pm ctv : Value} {vsc : Array Value} {oc : Obj} {t1 : Tok}
    (mf : (f, kla_obj "<lambda>" qual params body scope clos pm c' ctv) ∈ own) (mc : (c', oc) ∈ own) (hoc : oc.data = .fields vsc) (hoq : vsc[1]? = some (.str qual t1))
    (hb : bindArgs (kla_fn "<lambda>" qual params body scope clos pm (.ref c') ctv) ⟨[], []⟩ = pure [])
    (hco : scope.isCoroutine = false) (hgen : scope.isGenerator = false) (hk : scope.kind = .function) (hcell : ∀ x ∈ scope.names, x.2 ≠ .cell)
    (h : ∀ {dW dC dO dF dA PL : Addr} {esW esC : List DictEntry} {nW nC : Nat} {ls : List (Addr × Obj)}, CW w W dW C dC dO dF dA PL esW esC nW nC ls → (∀ q ∈ own, q ∈ ls) →
      ∀ {A : Around} {base g : Heap} {outer : List Env} {L : Addr} {mg mb : Str → Option Value} {p : Program} {loose : List Str} {mean : ExcName → Option Value} {s : Shared} {Q E : Value → Shared → Prop},
      Room 303 (plainA A) → Below (plainA A) base outer g → Fr g L s.heap (fun _ => none) → (hd.heap_1_39 w.params).In g → Top p loose mean mg mb g → News g L s.heap ls → PassesOwn (model RW.row.prog w) ((plainA A).deeper (envX qual scope L f (.ref c') clos)) (envX qual scope L f (.ref c') clos) E →
      (∀ {m'} gg h' tk e dx tc ls', (∀ q ∈ ls, q ∈ ls') → Fr g L gg m' → RaisedB base (envX qual scope L f (.ref c') clos :: outer) e dx (.str code tc) ls' h' → gg.UpToSlots h' → E (.ref e) { s with heap := h', toks := tk }) →
      wpAny (model RW.row.prog w) ((plainA A).deeper (envX qual scope L f (.ref c') clos)) (eval body (envX qual scope L f (.ref c') clos)) Q E s) : WK w W C own f code := by
  intro dW dC dO dF dA PL rest X hs esW nW esC nC hw hc
  refine ⟨(W, instObj 386 dW) :: (dW, dictOf esW nW) :: (C, instObj 138 dC) :: (dC, dictOf esC nC) :: rest, (· = (W, instObj 386 dW) :: (dW, dictOf esW nW) :: (C, instObj 138 dC) :: (dC, dictOf esC nC) :: rest), ?_, fun q hq => hq, ?_⟩
  · intro eL base h₀ outer cn cs L a ccd cl m mg mb p loose mean s Q E B F Xk T hck N hE
    have ho : ∀ q ∈ own, q ∈ (W, instObj 386 dW) :: (dW, dictOf esW nW) :: (C, instObj 138 dC) :: (dC, dictOf esC nC) :: rest := fun q hq => .tail _ (.tail _ (.tail _ (.tail _ (hs q hq))))
    have hr : Room 303 ((callerA.deeper eL).deeper (envX cn cs L a ccd cl)) := ⟨Nat.le_refl _, rfl, Nat.le_of_ble_eq_true rfl⟩
    refine wpAny_call (kla_code (env := envX cn cs L a ccd cl) (outer := outer) B F Xk N T (Around.frames_deeper B.stack) rfl hck (ho _ mf) (codeRec_news N (ho _ mc) hoc hoq) (hr.lt (k := 0) (by decide)) hb (locs rfl) (fun g L' h1 FG F' N' B' X' T' => ?_) hco hgen hk hcell)
    refine h (A := (callerA.deeper eL).deeper (envX cn cs L a ccd cl)) (X.toCW hw hc ⟨.head _, .tail _ (.head _), .tail _ (.tail _ (.head _)), .tail _ (.tail _ (.tail _ (.head _)))⟩ (fun q hq => .tail _ (.tail _ (.tail _ (.tail _ hq))))) ho hr B' F' X' T' N' (by passes_own) (fun g2 h3 tk e dx tc ls' hs F2 R U => ?_)
    exact leave_onB B' F2 R U rfl (fun h4 R4 U4 => hE g h4 tk e dx tc _ rfl FG (raisedB_sub R4 hs) U4)
  · rintro ls' rfl
    exact ⟨esW, nW, hw, .inl (.tail _ (.head _)), fun q hq _ => hq⟩

section
variable {prog : Program} {w : World} {A : Around} {s : Shared} {h₀ : Heap} {L : Addr} {m : Str → Option Value} {env : Env} {ct elt : Expr} {x : Str} {scope : Scope} {cl : List (Str × Addr)} {S : List (Addr × Obj) → Prop} {P : Nat → Value → Prop} {Fin : List Value → List (Addr × Obj) → Prop} {news : List (Addr × Obj)}
/-- a comprehension whose test is false throughout -/
theorem rest_skip {n : Nat} (hS : S news) (fin : Fin [] news)
    (step : ∀ (j : Nat) v I oI C oC D m₂ h tk (E' : Value → Shared → Prop) (K : Shared → Prop), j < n → P j v → NsObj oC m₂ → m₂ x = some v → Fr h₀ L h m → News h₀ L h ((I, oI) :: (C, oC) :: (D, lst []) :: news) → ((@Ne Nat I C) ∧ (@Ne Nat I D) ∧ (@Ne Nat C D)) →
      (∀ h' tk', Fr h₀ L h' m → News h₀ L h' ((I, oI) :: (C, oC) :: (D, lst []) :: news) → K { s with heap := h', toks := tk' }) →
      wpAny (model prog w) A (isTrue ct (compEnvC scope cl C env) (eval ct (compEnvC scope cl C env))) (fun ok s' => ok = false ∧ K s') E' { s with heap := h, toks := tk }) :
    ∀ (k i : Nat), i + k = n → LCt.CompRestT prog w A h₀ L m env ct elt x scope cl s S P Fin k i [] news
  | 0, _, _ => LCt.CompRestT.zero fin
  | k + 1, i, e => LCt.CompRestT.succ fun v I oI C oC D m₂ h tk E' hp hn hv F N off ne =>
    wpAny_mono (step i v I oI C oC D m₂ h tk E' (CompEnd h₀ L m { s with heap := h, toks := tk } I oI C oC D (lst []) S (fun _ news' => LCt.CompRestT prog w A h₀ L m env ct elt x scope cl s S P Fin k (i + 1) [] news') Value.none) (by omega) hp hn hv F N ne
      (fun _ _ F' N' => CompEnd.intro (s₁ := { s with heap := h, toks := tk }) F' N' news (fun _ h => h) off hS (rest_skip hS fin step k (i + 1) (by omega))))
      (fun ok s' h => by obtain ⟨rfl, hK⟩ := h; exact hK) fun _ _ h => h
end
end
section
open PySem.Calls PySem.Spec PyProof.Rows.LCg

/-- a turn of a comprehension is through: nothing of the ledger is changed -/
def GEnd (h₀ : Heap) (L : Addr) (m : Str → Option Value) (s : Shared) (all : List (Addr × Obj)) (R : Prop) (s' : Shared) : Prop :=
  ∃ h' tk, s' = { s with heap := h', toks := tk } ∧ Fr h₀ L h' m ∧ News h₀ L h' all ∧ R
theorem GEnd.intro {h₀ : Heap} {L : Addr} {m : Str → Option Value} {s : Shared} {all big : List (Addr × Obj)} {R : Prop} {h' : Heap} {tk : Nat} (F : Fr h₀ L h' m) (N : News h₀ L h' big) (hs : ∀ q ∈ all, q ∈ big) (r : R) : GEnd h₀ L m s all R { s with heap := h', toks := tk } :=
  ⟨h', tk, rfl, F, pickN N hs, r⟩

/-- the test of a comprehension, or none -/
def TestP (prog : Program) (w : World) (A : Around) : Option Expr → Env → (Bool → Shared → Prop) → (Value → Shared → Prop) → Shared → Prop
  | some ct, env, K, E, s => wpAny (model prog w) A (isTrue ct env (eval ct env)) K E s
  | none, _, K, _, s => K true s
def condsO : Option Expr → List Expr
  | some ct => [ct]
  | none => []
theorem TestP.mono {prog : Program} {w : World} {A : Around} {o : Option Expr} {env : Env} {K K' : Bool → Shared → Prop} {E : Value → Shared → Prop} {s : Shared} (h : TestP prog w A o env K E s) (hk : ∀ ok s', K ok s' → K' ok s') : TestP prog w A o env K' E s := by
  cases o with
  | none => exact hk _ _ h
  | some ct => exact wpAny_mono h hk fun _ _ e => e
theorem kco_loop {prog : Program} {w : World} {A : Around} {elt target iter : Expr} {o : Option Expr} {scope : Scope} {pos : Pos} {it acc : Value} {env : Env} {R : Result → Shared → Prop} (I : Nat → Shared → Prop)
    (turn : ∀ n s, I n s → wpAny (model prog w) A (pyNext it) (fun r s₁ => match r with
      | none => R (.ok .next) s₁
      | some v => wpAny (model prog w) A (letOwnedTupleGo target it v) (fun _ s₀ => wpAny (model prog w) A (assign target env v) (fun _ s₂ =>
          TestP prog w A o env (fun ok s₃ => if ok = true then wpAny (model prog w) A (eval elt env) (fun x s₄ =>
            wpAny (model prog w) A (call (.builtin "list.append") [acc, x]) (fun _ s₅ => ∃ m, m < n ∧ I m s₅) (notedBy (model prog w) A env fun e s' => R (.error e) s') s₄) (notedBy (model prog w) A env fun e s' => R (.error e) s') s₃
            else ∃ m, m < n ∧ I m s₃) (notedBy (model prog w) A env fun e s' => R (.error e) s') s₂)
          (notedBy (model prog w) A env fun e s' => R (.error e) s') s₀) (notedBy (model prog w) A env fun e s' => R (.error e) s') s₁) (notedBy (model prog w) A env fun e s' => R (.error e) s') s)
    (n : Nat) (h : I n s₀) : codeAny (model prog w) A (.compLoop (.ListComp elt [⟨target, iter, condsO o, 0⟩] scope pos) 0 it acc env) R s₀ := by
  cases o with
  | none => exact kcp_loop I turn n h
  | some ct => exact kct_loop I turn n h

inductive comp_genAt (prog : Program) (w : World) (A : Around) (h₀ : Heap) (L : Addr) (m : Str → Option Value) (env : Env) (target : Expr) (o : Option Expr) (elt : Expr) (scope : Scope) (cl : List (Str × Addr)) (Q : Value → Shared → Prop) (it : Value) (s₂ : Shared) : Prop
  | mk (I : Addr) (fp wr : List Addr) (n : Nat) (P Md : Nat → Value → Heap → Prop) (St : Nat → Heap → Prop) (news : List (Addr × Obj)) (J : Nat → List Value → Prop) (Bd : Nat → (Str → Option Value) → Prop) (a0 : it = .ref I) (a1 : KTurns prog w A target I fp wr n P Md St) (a2 : (∀ (s : Shared) (Q : Value → Shared → Prop) (E : Value → Shared → Prop), St 0 s.heap → Q (.ref I) s → wpAny (model prog w) A (pyIter (.ref I)) Q E s)) (a3 : (∀ b ∈ fp, b < s₂.heap.objs.size)) (a4 : L ∉ fp) (a5 : (∀ b ∈ wr, h₀.get? b = none)) (a6 : (∀ p ∈ news, p.1 ∉ wr)) (a7 : St 0 s₂.heap) (a8 : Fr h₀ L s₂.heap m) (a9 : News h₀ L s₂.heap news) (a10 : n ≤ sizeLine) (a11 : J 0 []) (a12 : (∀ i ys, i ≤ n → J i ys → ys.length ≤ i)) (a13 : (∀ i v C mC (s : Shared) (Q : Unit → Shared → Prop) (E : Value → Shared → Prop), i < n → P i v s.heap → s.heap.Ns C mC → News h₀ L s.heap news → (∀ (h' : Heap) (tk : Nat) mC', h'.Ns C mC' → Bd i mC' → (∀ b o, b ≠ C → s.heap.get? b = some o → h'.get? b = some o) → Q () { s with heap := h', toks := tk }) → wpAny (model prog w) A (assign target (compEnvC scope cl C env) v) Q E s)) (a14 : (∀ i own C oC mC D ys h tk (E' : Value → Shared → Prop), i < n → Bd i mC → NsObj oC mC → J i ys → Fr h₀ L h m → News h₀ L h ((C, oC) :: (D, lst ys) :: (news ++ own)) →
      TestP prog w A o (compEnvC scope cl C env) (fun ok s' => if ok = true then
        wpAny (model prog w) A (eval elt (compEnvC scope cl C env)) (fun y s' => GEnd h₀ L m { s₂ with heap := h, toks := tk } ((C, oC) :: (D, lst ys) :: (news ++ own)) (J (i + 1) (ys ++ [y])) s') E' s'
        else GEnd h₀ L m { s₂ with heap := h, toks := tk } ((C, oC) :: (D, lst ys) :: (news ++ own)) (J (i + 1) ys) s') E' { s₂ with heap := h, toks := tk })) (a15 : ∀ D h tk ys, J n ys → Fr h₀ L h m → News h₀ L h ((D, lst ys) :: news) → (∀ p ∈ news, p.1 < D) → Q (.ref D) { s₂ with heap := h, toks := tk })
inductive GInv (n : Nat) (D C : Addr) (h₀ : Heap) (L : Addr) (m : Str → Option Value) (St : Nat → Heap → Prop) (J : Nat → List Value → Prop) (news : List (Addr × Obj)) (s₂ : Shared) (k : Nat) (s' : Shared) : Prop
  | mk (h' : Heap) (tk i : Nat) (ys : List Value) (m' : Str → Option Value) (a0 : s' = { s₂ with heap := h', toks := tk }) (a1 : i ≤ n) (a2 : k = n + 1 - i) (a3 : St i h') (a4 : Fr h₀ L h' m) (a5 : News h₀ L h' ((D, lst ys) :: news)) (a6 : h'.Ns C m') (a7 : J i ys)
section
variable {prog : Program} {w : World} {A : Around} {E : Value → Shared → Prop} {s : Shared} {h₀ : Heap} {L : Addr} {m : Str → Option Value} {env : Env} {target elt iter : Expr} {o : Option Expr} {scope : Scope} {cl : List (Str × Addr)} {pos : Pos} {Q : Value → Shared → Prop}
theorem comp_gen (_F₀ : Fr h₀ L s.heap m) (hclos : closureFor scope env = pure cl) (hcell : ∀ y ∈ scope.names, y.2 ≠ .cell) (hkind : scope.kind = .function)
    (hnames : ∀ y ∈ scope.names, y.2 = .local → scope.names.lookup y.1 = some .local)
    (h : wpAny (model prog w) A (eval iter env) (fun xv s₁ => wpAny (model prog w) A (pyIter xv) (fun it s₂ => comp_genAt prog w A h₀ L m env target o elt scope cl Q it s₂) E s₁) E s)
    (hs : ∀ x, foldedSetIterable iter env x = pure x := by intro _; rfl) :
    wpAny (model prog w) A (eval (.ListComp elt [⟨target, iter, condsO o, 0⟩] scope pos) env) Q E s := by
  rw [eval_ListComp]
  refine wpAny_comprehension_free (use := none) rfl hs hclos hkind hnames (wpAny_mono h (fun xv s₁ h₁ => ?_) fun _ _ e => e)
  refine wpAny_mono h₁ (fun it s₂ h₂ => ?_) fun _ _ e => e
  obtain ⟨I, fp, wr, n, P, Md, St, news, J, Bd, rfl, W, hself, hfp, hLf, hwr, hnw, hst, F, N, hsz, hJ0, hlen, asg, turn, hQ⟩ := h₂
  refine wpAny_newObj_type (wpAny_newFunctionEnv hcell (by intro y hy; simp at hy) (fun h₁ hns₁ hsb₁ => ?_) hkind)
  dsimp only at hns₁ hsb₁ ⊢
  generalize hD : s₂.heap.objs.size = D at *
  generalize hH2 : s₂.heap.push { cls := .type "list", dict := none, data := .seq ([] : List Value).toArray } = H2 at hns₁ hsb₁ ⊢
  have hC : H2.objs.size = D + 1 := by rw [← hH2, Heap.size_push, hD]
  generalize hCe : H2.objs.size = C at *
  have hCD : C ≠ D := by rw [hC]; exact Nat.succ_ne_self _
  have below : ∀ b, b < D → b ≠ C ∧ b ≠ D := fun b hb => ⟨by rw [hC]; exact Nat.ne_of_lt (Nat.lt_succ_of_lt hb), Nat.ne_of_lt hb⟩
  have hDf : D ∉ fp := fun hm => Nat.lt_irrefl _ (hfp _ hm)
  have hCf : C ∉ fp := fun hm => by have := hfp _ hm; rw [hC] at this; exact Nat.lt_irrefl _ (Nat.lt_of_succ_lt this)
  have fresh₀ : ∀ a, D ≤ a → h₀.get? a = none := fun a ha => by
    cases e : h₀.get? a with
    | none => rfl
    | some o' => have := Heap.lt_size (F.keep a o' e); rw [hD] at this; exact absurd this (Nat.not_lt.mpr ha)
  have hD₀ : h₀.get? D = none := fresh₀ _ (Nat.le_refl _)
  have hC₀ : h₀.get? C = none := fresh₀ _ (by rw [hC]; exact Nat.le_succ _)
  have hLlt : L < D := hD ▸ F.ns.lt
  have hDL : D ≠ L := Ne.symm (below L hLlt).2
  have hCL : C ≠ L := Ne.symm (below L hLlt).1
  have ltN : ∀ p ∈ news, p.1 < D := fun p hp => hD ▸ Heap.lt_size (N p hp).1
  have offD : ∀ p ∈ news, p.1 ≠ D := fun p hp => (below _ (ltN p hp)).2
  have old : ∀ b o, s₂.heap.get? b = some o → h₁.get? b = some o := fun b o e => by
    have hb := Heap.lt_size e
    rw [hD] at hb
    exact hsb₁.extBut b o (below b hb).1 (Heap.get?_push_of_some _ (by rw [← hH2]; exact Heap.get?_push_of_some _ e))
  have hacc : h₁.get? D = some (lst []) := hsb₁.extBut _ _ (Ne.symm hCD) (Heap.get?_push_of_some _ (by rw [← hH2, ← hD]; exact Heap.get?_push_size _ rfl))
  have hst₁ : St 0 h₁ := W.frame _ _ _ hst fun b _ o e => old b o e
  have loop : ∀ (R : Result → Shared → Prop) (s₃ : Shared), s₃ = { s₂ with heap := h₁, toks := s₂.toks + ([] : List (Str × Value)).length } → (∀ h₂ tk₂ ys, J n ys → Fr h₀ L h₂ m → News h₀ L h₂ ((D, lst ys) :: news) → (∃ m', h₂.Ns C m') → R (.ok .next) { s₂ with heap := h₂, toks := tk₂ }) →
      codeAny (model prog w) A (.compLoop (.ListComp elt [⟨target, iter, condsO o, 0⟩] scope pos) 0 (.ref I) (.ref D) (compEnvC scope cl C env)) R s₃ := by
    rintro R s₃ rfl hR
    refine kco_loop
      (GInv n D C h₀ L m St J news s₂) ?turn (n + 1)
      ⟨h₁, _, 0, [], _, rfl, Nat.zero_le _, rfl, hst₁, F.keeps old, fun p hp => ?init, hns₁, hJ0⟩
    case init =>
      rcases List.mem_cons.mp hp with rfl | hp
      · exact ⟨hacc, hDL, hD₀⟩
      · exact ⟨old _ _ (N p hp).1, (N p hp).2⟩
    case turn =>
      rintro k s' ⟨h', tk, i, ys, m', rfl, hi, rfl, hst', F', N', hn', hJ'⟩
      have old0 : ∀ b o, h₀.get? b = some o → b ∉ wr := fun b o e hb => by rw [hwr b hb] at e; cases e
      have hLw : L ∉ wr := fun h => hLf (W.sub _ h)
      have hDw : D ∉ wr := fun h => hDf (W.sub _ h)
      have hCw : C ∉ wr := fun h => hCf (W.sub _ h)
      have next : ∀ h₂ : Heap, (∀ b o, b ∉ wr → h'.get? b = some o → h₂.get? b = some o) → Fr h₀ L h₂ m ∧ News h₀ L h₂ ((D, lst ys) :: news) ∧ h₂.Ns C m' := fun h₂ hk₂ =>
        ⟨⟨F'.ns.at' fun o e => hk₂ _ o hLw e, fun b o e => hk₂ b o (old0 b o e) (F'.keep b o e), F'.above⟩, fun p hp => ⟨hk₂ _ _ (by
          rcases List.mem_cons.mp hp with rfl | hp
          · exact hDw
          · exact hnw p hp) (N' p hp).1, (N' p hp).2⟩, hn'.at' fun o e => hk₂ _ o hCw e⟩
      by_cases hlt : i < n
      · refine W.item i _ _ _ hlt hst' fun v h₂ tk₂ hMd hk₂ => ?_
        refine W.go i v _ _ _ hMd fun h₃ hP hst₃ hk₃ => ?_
        obtain ⟨F₃, N₃, hn₃⟩ := next h₃ fun b o hb x => hk₃ b o hb (hk₂ b o hb x)
        refine asg i v C m' _ _ _ hlt hP hn₃ (fun p hp => N₃ p (.tail _ hp)) fun h₄ tk₄ mC hn₄ hBd hk₄ => ?_
        have F₄ : Fr h₀ L h₄ m := ⟨F₃.ns.at' fun o e => hk₄ _ o (Ne.symm hCL) e, fun b o e => hk₄ b o (fun q => by rw [q, hC₀] at e; cases e) (F₃.keep b o e), F₃.above⟩
        have hst₄ : St (i + 1) h₄ := W.frame _ _ _ hst₃ fun b hb o e => hk₄ b o (fun q => hCf (q ▸ hb)) e
        obtain ⟨oC, heC, hoC⟩ := ns_obj hn₄
        have Nown : News h₀ L h₄ (PyProof.Rows.ownOf h₀ fp h₄) := news_ownOf hLf
        have N₄ : News h₀ L h₄ ((C, oC) :: (D, lst ys) :: (news ++ PyProof.Rows.ownOf h₀ fp h₄)) := fun p hp => by
          rcases List.mem_cons.mp hp with rfl | hp
          · exact ⟨heC, hCL, hC₀⟩
          rcases List.mem_cons.mp hp with rfl | hp
          · exact ⟨hk₄ _ _ (Ne.symm hCD) (N₃ _ (.head _)).1, hDL, hD₀⟩
          rcases List.mem_append.mp hp with hp | hp
          · exact ⟨hk₄ _ _ (below _ (ltN p hp)).1 (N₃ p (.tail _ hp)).1, (N₃ p (.tail _ hp)).2⟩
          · exact Nown p hp
        have keepSt : ∀ {h₆ : Heap}, Fr h₀ L h₆ m → News h₀ L h₆ ((C, oC) :: (D, lst ys) :: (news ++ PyProof.Rows.ownOf h₀ fp h₄)) → St (i + 1) h₆ := fun F₆ N₆ => by
          refine W.frame _ _ _ hst₄ fun b hb o e => ?_
          cases hn : h₀.get? b with
          | some o₀ =>
            have : o₀ = o := by have q := F₄.keep b o₀ hn; rw [e] at q; exact (Option.some.inj q).symm
            exact this ▸ F₆.keep b o₀ hn
          | none => exact (N₆ _ (.tail _ (.tail _ (List.mem_append_right _ (mem_ownOf hb hn e))))).1
        have hT := turn i _ C oC mC D ys h₄ tk₄ (notedBy (model prog w) A (compEnvC scope cl C env) fun e s' => R (.error e) s') hlt hBd hoC hJ' F₄ N₄
        refine TestP.mono hT (fun ok s₄ h₄ => ?_)
        cases ok with
        | true =>
          simp only [if_true] at h₄ ⊢
          refine wpAny_mono h₄ (fun y s₅ h₅ => ?_) fun _ _ e => e
          obtain ⟨h₆, tk₆, rfl, F₆, N₆, hJ₆⟩ := h₅
          have zC := (N₆ (C, oC) (.head _)).1
          have zD := (N₆ (D, lst ys) (.tail _ (.head _))).1
          have hst₆ : St (i + 1) h₆ := keepSt F₆ N₆
          refine append_at (hsz := by show ys.toArray.size ≤ sizeLine; rw [List.size_toArray]; exact Nat.le_trans (hlen _ _ (Nat.le_of_lt hlt) hJ') (Nat.le_trans (Nat.le_of_lt hlt) hsz)) zD fun h₇ hs₇ hD₇ => ?_
          refine ⟨n + 1 - (i + 1), by omega, h₇, tk₆, i + 1, ys ++ [y], _, rfl, hlt, rfl, W.frame _ _ _ hst₆ fun b hb o e => hs₇.extBut b o (fun q => hDf (q ▸ hb)) e, F₆.change hs₇ hDL hD₀, fun p hp => ?_, (hoC.ns zC).sameBut hs₇ hCD, hJ₆⟩
          rcases List.mem_cons.mp hp with rfl | hp
          · exact ⟨hD₇.trans (congrArg some (lst_snoc ys y)), hDL, hD₀⟩
          · have z := N₆ p (.tail _ (.tail _ (List.mem_append_left _ hp)))
            exact ⟨hs₇.extBut _ _ (offD p hp) z.1, z.2⟩

        | false =>
          simp only [Bool.false_eq_true, if_false] at h₄ ⊢
          obtain ⟨h₆, tk₆, rfl, F₆, N₆, hJ₆⟩ := h₄
          have zC := (N₆ (C, oC) (.head _)).1
          refine ⟨n + 1 - (i + 1), by omega, h₆, tk₆, i + 1, ys, _, rfl, hlt, rfl, keepSt F₆ N₆, F₆, fun p hp => ?_, hoC.ns zC, hJ₆⟩
          rcases List.mem_cons.mp hp with rfl | hp
          · exact N₆ _ (.tail _ (.head _))
          · exact N₆ p (.tail _ (.tail _ (List.mem_append_left _ hp)))
      · obtain rfl : i = n := Nat.le_antisymm hi (Nat.not_lt.mp hlt)
        refine W.done _ _ _ hst' fun h₂ tk₂ hk₂ => ?_
        obtain ⟨F₂, N₂, hn₂⟩ := next h₂ hk₂
        exact hR h₂ tk₂ ys hJ' F₂ N₂ ⟨_, hn₂⟩
  have fin : ∀ h₂ tk₂ ys, J n ys → Fr h₀ L h₂ m → News h₀ L h₂ ((D, lst ys) :: news) → (∃ m', h₂.Ns C m') → ∃ m', h₂.Ns C m' ∧ ∀ h'', Heap.SameBut C h₂ h'' → Q (.ref D) { s₂ with heap := h'', toks := tk₂ } := by
    rintro h₂ tk₂ ys hJ F₂ N₂ ⟨m', hn⟩
    refine ⟨m', hn, fun h'' hs'' => hQ D h'' tk₂ ys hJ (F₂.change hs'' hCL hC₀) (fun p hp => ⟨hs''.extBut _ _ ?_ (N₂ p hp).1, (N₂ p hp).2⟩) ltN⟩
    rcases List.mem_cons.mp hp with rfl | hp
    · exact Ne.symm hCD
    · exact (below _ (ltN p hp)).1
  exact codeAny_compStart_list (loop _ _ rfl fin) (hself _ _ _ hst₁ (loop _ _ rfl fin))
end

abbrev comp_genTAt (prog : Program) (w : World) (A : Around) (h₀ : Heap) (L : Addr) (m : Str → Option Value) (env : Env) (target ct elt : Expr) := comp_genAt prog w A h₀ L m env target (some ct) elt
abbrev comp_gen0At (prog : Program) (w : World) (A : Around) (h₀ : Heap) (L : Addr) (m : Str → Option Value) (env : Env) (target elt : Expr) := comp_genAt prog w A h₀ L m env target none elt
section
variable {prog : Program} {w : World} {A : Around} {E : Value → Shared → Prop} {s : Shared} {h₀ : Heap} {L : Addr} {m : Str → Option Value} {env : Env} {target ct elt iter : Expr} {scope : Scope} {cl : List (Str × Addr)} {pos : Pos} {Q : Value → Shared → Prop}
theorem comp_genT (F₀ : Fr h₀ L s.heap m) (hclos : closureFor scope env = pure cl) (hcell : ∀ y ∈ scope.names, y.2 ≠ .cell) (hkind : scope.kind = .function)
    (hnames : ∀ y ∈ scope.names, y.2 = .local → scope.names.lookup y.1 = some .local)
    (h : wpAny (model prog w) A (eval iter env) (fun xv s₁ => wpAny (model prog w) A (pyIter xv) (fun it s₂ => comp_genTAt prog w A h₀ L m env target ct elt scope cl Q it s₂) E s₁) E s)
    (hs : ∀ x, foldedSetIterable iter env x = pure x := by intro _; rfl) :
    wpAny (model prog w) A (eval (.ListComp elt [⟨target, iter, [ct], 0⟩] scope pos) env) Q E s := comp_gen (o := some ct) F₀ hclos hcell hkind hnames h hs
theorem comp_gen0 (F₀ : Fr h₀ L s.heap m) (hclos : closureFor scope env = pure cl) (hcell : ∀ y ∈ scope.names, y.2 ≠ .cell) (hkind : scope.kind = .function)
    (hnames : ∀ y ∈ scope.names, y.2 = .local → scope.names.lookup y.1 = some .local)
    (h : wpAny (model prog w) A (eval iter env) (fun xv s₁ => wpAny (model prog w) A (pyIter xv) (fun it s₂ => comp_gen0At prog w A h₀ L m env target elt scope cl Q it s₂) E s₁) E s)
    (hs : ∀ x, foldedSetIterable iter env x = pure x := by intro _; rfl) :
    wpAny (model prog w) A (eval (.ListComp elt [⟨target, iter, [], 0⟩] scope pos) env) Q E s := comp_gen (o := none) F₀ hclos hcell hkind hnames h hs
end
end
section
open PySem.Calls PySem.Spec PyProof.Rows.LCg
section
variable {prog : Program} {w : World} {A : Around} {E : Value → Shared → Prop} {s : Shared} {h₀ : Heap} {L : Addr} {m : Str → Option Value} {env : Env} {ct elt : Expr} {o : Option Expr} {x x₂ : Str} {px px₂ tp : Pos} {kk : Nat} {scope : Scope} {cl : List (Str × Addr)} {Q : Value → Shared → Prop} {news : List (Addr × Obj)}
theorem src_dict {d : Addr} {od : Obj} {kvs : List (Int × Value)} (J : Nat → List Value → Prop) (hh : A.handled = none) (F : Fr h₀ L s.heap m) (N : News h₀ L s.heap news) (hm : (d, od) ∈ news) (hd : od.IsDictOf (PySem.intKind prog w) kvs) (lo : (d == sysModules) = false) (hsz : kvs.length ≤ sizeLine)
    (hx : scope.names.lookup x = some .local) (hk : scope.kind = .function) (hJ0 : J 0 []) (hlen : ∀ i ys, J i ys → ys.length ≤ i)
    (turn : ∀ i k vv t own C oC mC D ys h tk (E' : Value → Shared → Prop), kvs[i]? = some (k, vv) → mC x = some (.int k t) → NsObj oC mC → J i ys → Fr h₀ L h m → News h₀ L h ((C, oC) :: (D, lst ys) :: (news ++ own)) →
      TestP prog w A o (compEnvC scope cl C env) (fun ok s' => if ok = true then
        wpAny (model prog w) A (eval elt (compEnvC scope cl C env)) (fun y s' => GEnd h₀ L m { s with heap := h, toks := tk } ((C, oC) :: (D, lst ys) :: (news ++ own)) (J (i + 1) (ys ++ [y])) s') E' s'
        else GEnd h₀ L m { s with heap := h, toks := tk } ((C, oC) :: (D, lst ys) :: (news ++ own)) (J (i + 1) ys) s') E' { s with heap := h, toks := tk })
    (hQ : ∀ D h tk ys, J kvs.length ys → Fr h₀ L h m → News h₀ L h ((D, lst ys) :: news) → (∀ p ∈ news, p.1 < D) → Q (.ref D) { s with heap := h, toks := tk }) :
    wpAny (model prog w) A (pyIter (.ref d)) (fun it s₂ => comp_genAt prog w A h₀ L m env (.Name x px) o elt scope cl Q it s₂) E s := by
  obtain ⟨ep, ha⟩ := KdkAt.of hd
  have hat := ha.dictAt (N _ hm).1
  have hlt : d < s.heap.objs.size := Heap.lt_size (N _ hm).1
  refine wpAny_pyIter_dict lo hat ?_
  have W := Walks.dictKeys (prog := prog) (w := w) (A := A) (knd := PySem.intKind prog w) hh s.heap.objs.size d (Nat.ne_of_lt hlt) kvs ep
  refine ⟨s.heap.objs.size, [s.heap.objs.size, d], [s.heap.objs.size], kvs.length, _, _, _, news, J, fun i m₂ => ∃ k vv t, kvs[i]? = some (k, vv) ∧ m₂ x = some (.int k t), rfl, KTurns.ofWalks W (fun i v s Q E st q => letGo_keyiter st.1 q), fun s Q E st q => W.self 0 s Q E st q, fun b hb => ?_, fun hL => ?_, fun b hb => ?_, fun p hp hb => ?_,
    ⟨⟨_, Heap.get?_push_size _ rfl, rfl, rfl⟩, hat.push _⟩, F.push _, fun p hp => ⟨Heap.get?_push_of_some _ (N p hp).1, (N p hp).2⟩, hsz, hJ0, fun i ys _ => hlen i ys, ?_, ?_, fun D h tk ys hJ F' N' lt => hQ D h tk ys hJ F' N' lt⟩
  · show b < (s.heap.push _).objs.size
    rw [Heap.size_push]
    rcases List.mem_cons.mp hb with rfl | hb
    · exact Nat.lt_succ_self _
    · rw [List.mem_singleton.mp hb]; exact Nat.lt_succ_of_lt hlt
  · rcases List.mem_cons.mp hL with e | hL
    · exact absurd F.ns.lt (e ▸ Nat.lt_irrefl _)
    · exact (N _ hm).2.1 (List.mem_singleton.mp hL).symm
  · rw [List.mem_singleton.mp hb]; exact next_is_new F
  · have := Heap.lt_size (N p hp).1
    rw [List.mem_singleton.mp hb] at this
    exact Nat.lt_irrefl _ this
  · intro i v C mC s' Q' E' hi hP hn _ k
    obtain ⟨key, vv, hkv, hk'⟩ := hP
    obtain ⟨t, rfl⟩ := Value.isInt_shape hk'
    exact wpAny_assign_Name (wpAny_storeName_local (lookup_relabel_local hx) hn (fun h₃ hn₃ hs₃ => k h₃ _ _ hn₃ ⟨key, vv, t, hkv, by simp⟩ fun b o hb e => hs₃.extBut b o hb e) (by simp [compEnvC, relabel, hk]))
  · rintro i own C oC mC D ys h tk E' hi ⟨key, vv, t, hkv, hb⟩ hoC hJ F' N'
    exact turn i key vv t own C oC mC D ys h tk E' hkv hb hoC hJ F' N'

theorem src_pairs {ax : Addr} {lo : Obj} {vs : List Value} {n : Nat} (J : Nat → List Value → Prop) (hh : A.handled = none) (F : Fr h₀ L s.heap m) (N : News h₀ L s.heap news) (hm : (ax, lo) ∈ news) (hc : lo.cls = .type "list") (hd : lo.data = .seq vs.toArray n) (hsz : vs.length ≤ sizeLine)
    (hx : scope.names.lookup x = some .local) (hx₂ : scope.names.lookup x₂ = some .local) (hxx : ¬ x = x₂) (hk : scope.kind = .function) (hJ0 : J 0 []) (hlen : ∀ i ys, J i ys → ys.length ≤ i)
    (Pr : Nat → Value → Value → Prop) (hits : ∀ i v, vs[i]? = some v → ∃ (t : Addr) (ot : Obj) (v₁ v₂ : Value) (nt : Nat), v = .ref t ∧ (t, ot) ∈ news ∧ ot.cls = .type "tuple" ∧ ot.data = .seq #[v₁, v₂] nt ∧ Pr i v₁ v₂)
    (turn : ∀ i v₁ v₂ own C oC mC D ys h tk (E' : Value → Shared → Prop), Pr i v₁ v₂ → mC x = some v₁ → mC x₂ = some v₂ → NsObj oC mC → J i ys → Fr h₀ L h m → News h₀ L h ((C, oC) :: (D, lst ys) :: (news ++ own)) →
      TestP prog w A o (compEnvC scope cl C env) (fun ok s' => if ok = true then
        wpAny (model prog w) A (eval elt (compEnvC scope cl C env)) (fun y s' => GEnd h₀ L m { s with heap := h, toks := tk } ((C, oC) :: (D, lst ys) :: (news ++ own)) (J (i + 1) (ys ++ [y])) s') E' s'
        else GEnd h₀ L m { s with heap := h, toks := tk } ((C, oC) :: (D, lst ys) :: (news ++ own)) (J (i + 1) ys) s') E' { s with heap := h, toks := tk })
    (hQ : ∀ D h tk ys, J vs.length ys → Fr h₀ L h m → News h₀ L h ((D, lst ys) :: news) → (∀ p ∈ news, p.1 < D) → Q (.ref D) { s with heap := h, toks := tk }) :
    wpAny (model prog w) A (pyIter (.ref ax)) (fun it s₂ => comp_genAt prog w A h₀ L m env (.Tuple [.Name x px, .Name x₂ px₂] kk tp) o elt scope cl Q it s₂) E s := by
  have hax := N _ hm
  have hl : s.heap.IsList ax vs.toArray := ⟨lo, hax.1, hc, n, hd⟩
  have hlt : ax < s.heap.objs.size := Heap.lt_size hax.1
  refine wpAny_pyIter_list hl ?_
  have W := Walks.list (prog := prog) (w := w) (A := A) hh s.heap.objs.size ax (Nat.ne_of_lt hlt) vs.toArray
  have esz : vs.toArray.size = vs.length := by simp
  rw [esz] at W
  refine ⟨s.heap.objs.size, [s.heap.objs.size, ax], [s.heap.objs.size], vs.length, _, _, _, news, J, fun i m₂ => ∃ v₁ v₂, Pr i v₁ v₂ ∧ m₂ x = some v₁ ∧ m₂ x₂ = some v₂, rfl, KTurns.ofWalks W (fun i v s Q E st q => letGo_listiter st.1 q), fun s Q E st q => W.self 0 s Q E st q, fun b hb => ?_, fun hL => ?_, fun b hb => ?_, fun p hp hb => ?_,
    ⟨⟨_, Heap.get?_push_size _ rfl, rfl, rfl⟩, hl.at fun o e => Heap.get?_push_of_some _ e⟩, F.push _, fun p hp => ⟨Heap.get?_push_of_some _ (N p hp).1, (N p hp).2⟩, hsz, hJ0, fun i ys _ => hlen i ys, ?_, ?_, fun D h tk ys hJ F' N' lt => hQ D h tk ys hJ F' N' lt⟩
  · show b < (s.heap.push _).objs.size
    rw [Heap.size_push]
    rcases List.mem_cons.mp hb with rfl | hb
    · exact Nat.lt_succ_self _
    · rw [List.mem_singleton.mp hb]; exact Nat.lt_succ_of_lt hlt
  · rcases List.mem_cons.mp hL with e | hL
    · exact absurd F.ns.lt (e ▸ Nat.lt_irrefl _)
    · exact hax.2.1 (List.mem_singleton.mp hL).symm
  · rw [List.mem_singleton.mp hb]; exact next_is_new F
  · have := Heap.lt_size (N p hp).1
    rw [List.mem_singleton.mp hb] at this
    exact Nat.lt_irrefl _ this
  · intro i v C mC s' Q' E' hi hP hn N' k
    have hP' : vs.toArray[i]? = some v := hP
    obtain ⟨t, ot, v₁, v₂, nt, rfl, mt, ct', dt, hpr⟩ := hits i v (by simpa using hP')
    refine kcp_assign hh ⟨ot, (N' _ mt).1, ct', nt, dt⟩ (lookup_relabel_local hx) (lookup_relabel_local hx₂) (by simp [compEnvC, relabel, hk]) hn fun h' tk hn' hk' => k h' tk _ hn' ⟨v₁, v₂, hpr, by simp [hxx], by simp⟩ fun b o hb e => hk' b o hb e
  · rintro i own C oC mC D ys h tk E' hi ⟨v₁, v₂, hpr, b1, b2⟩ hoC hJ F' N'
    exact turn i v₁ v₂ own C oC mC D ys h tk E' hpr b1 b2 hoC hJ F' N'

theorem src_dict0 {d : Addr} {od : Obj} {kvs : List (Int × Value)} (J : Nat → List Value → Prop) (hh : A.handled = none) (F : Fr h₀ L s.heap m) (N : News h₀ L s.heap news) (hm : (d, od) ∈ news) (hd : od.IsDictOf (PySem.intKind prog w) kvs) (lo : (d == sysModules) = false) (hsz : kvs.length ≤ sizeLine)
    (hx : scope.names.lookup x = some .local) (hk : scope.kind = .function) (hJ0 : J 0 []) (hlen : ∀ i ys, J i ys → ys.length ≤ i)
    (turn : ∀ i k vv t own C oC mC D ys h tk (E' : Value → Shared → Prop), kvs[i]? = some (k, vv) → mC x = some (.int k t) → NsObj oC mC → J i ys → Fr h₀ L h m → News h₀ L h ((C, oC) :: (D, lst ys) :: (news ++ own)) →
      wpAny (model prog w) A (eval elt (compEnvC scope cl C env)) (fun y s' => GEnd h₀ L m { s with heap := h, toks := tk } ((C, oC) :: (D, lst ys) :: (news ++ own)) (J (i + 1) (ys ++ [y])) s') E' { s with heap := h, toks := tk })
    (hQ : ∀ D h tk ys, J kvs.length ys → Fr h₀ L h m → News h₀ L h ((D, lst ys) :: news) → (∀ p ∈ news, p.1 < D) → Q (.ref D) { s with heap := h, toks := tk }) :
    wpAny (model prog w) A (pyIter (.ref d)) (fun it s₂ => comp_gen0At prog w A h₀ L m env (.Name x px) elt scope cl Q it s₂) E s := src_dict (o := none) J hh F N hm hd lo hsz hx hk hJ0 hlen turn hQ
theorem src_dictT {d : Addr} {od : Obj} {kvs : List (Int × Value)} (J : Nat → List Value → Prop) (hh : A.handled = none) (F : Fr h₀ L s.heap m) (N : News h₀ L s.heap news) (hm : (d, od) ∈ news) (hd : od.IsDictOf (PySem.intKind prog w) kvs) (lo : (d == sysModules) = false) (hsz : kvs.length ≤ sizeLine)
    (hx : scope.names.lookup x = some .local) (hk : scope.kind = .function) (hJ0 : J 0 []) (hlen : ∀ i ys, J i ys → ys.length ≤ i)
    (turn : ∀ i k vv t own C oC mC D ys h tk (E' : Value → Shared → Prop), kvs[i]? = some (k, vv) → mC x = some (.int k t) → NsObj oC mC → J i ys → Fr h₀ L h m → News h₀ L h ((C, oC) :: (D, lst ys) :: (news ++ own)) →
      wpAny (model prog w) A (isTrue ct (compEnvC scope cl C env) (eval ct (compEnvC scope cl C env))) (fun ok s' => if ok = true then
        wpAny (model prog w) A (eval elt (compEnvC scope cl C env)) (fun y s' => GEnd h₀ L m { s with heap := h, toks := tk } ((C, oC) :: (D, lst ys) :: (news ++ own)) (J (i + 1) (ys ++ [y])) s') E' s'
        else GEnd h₀ L m { s with heap := h, toks := tk } ((C, oC) :: (D, lst ys) :: (news ++ own)) (J (i + 1) ys) s') E' { s with heap := h, toks := tk })
    (hQ : ∀ D h tk ys, J kvs.length ys → Fr h₀ L h m → News h₀ L h ((D, lst ys) :: news) → (∀ p ∈ news, p.1 < D) → Q (.ref D) { s with heap := h, toks := tk }) :
    wpAny (model prog w) A (pyIter (.ref d)) (fun it s₂ => comp_genTAt prog w A h₀ L m env (.Name x px) ct elt scope cl Q it s₂) E s := src_dict (o := some ct) J hh F N hm hd lo hsz hx hk hJ0 hlen turn hQ
theorem src_pairs0 {ax : Addr} {lo : Obj} {vs : List Value} {n : Nat} (J : Nat → List Value → Prop) (hh : A.handled = none) (F : Fr h₀ L s.heap m) (N : News h₀ L s.heap news) (hm : (ax, lo) ∈ news) (hc : lo.cls = .type "list") (hd : lo.data = .seq vs.toArray n) (hsz : vs.length ≤ sizeLine)
    (hx : scope.names.lookup x = some .local) (hx₂ : scope.names.lookup x₂ = some .local) (hxx : ¬ x = x₂) (hk : scope.kind = .function) (hJ0 : J 0 []) (hlen : ∀ i ys, J i ys → ys.length ≤ i)
    (Pr : Nat → Value → Value → Prop) (hits : ∀ i v, vs[i]? = some v → ∃ (t : Addr) (ot : Obj) (v₁ v₂ : Value) (nt : Nat), v = .ref t ∧ (t, ot) ∈ news ∧ ot.cls = .type "tuple" ∧ ot.data = .seq #[v₁, v₂] nt ∧ Pr i v₁ v₂)
    (turn : ∀ i v₁ v₂ own C oC mC D ys h tk (E' : Value → Shared → Prop), Pr i v₁ v₂ → mC x = some v₁ → mC x₂ = some v₂ → NsObj oC mC → J i ys → Fr h₀ L h m → News h₀ L h ((C, oC) :: (D, lst ys) :: (news ++ own)) →
      wpAny (model prog w) A (eval elt (compEnvC scope cl C env)) (fun y s' => GEnd h₀ L m { s with heap := h, toks := tk } ((C, oC) :: (D, lst ys) :: (news ++ own)) (J (i + 1) (ys ++ [y])) s') E' { s with heap := h, toks := tk })
    (hQ : ∀ D h tk ys, J vs.length ys → Fr h₀ L h m → News h₀ L h ((D, lst ys) :: news) → (∀ p ∈ news, p.1 < D) → Q (.ref D) { s with heap := h, toks := tk }) :
    wpAny (model prog w) A (pyIter (.ref ax)) (fun it s₂ => comp_gen0At prog w A h₀ L m env (.Tuple [.Name x px, .Name x₂ px₂] kk tp) elt scope cl Q it s₂) E s := src_pairs (o := none) J hh F N hm hc hd hsz hx hx₂ hxx hk hJ0 hlen Pr hits turn hQ
theorem src_pairsT {ax : Addr} {lo : Obj} {vs : List Value} {n : Nat} (J : Nat → List Value → Prop) (hh : A.handled = none) (F : Fr h₀ L s.heap m) (N : News h₀ L s.heap news) (hm : (ax, lo) ∈ news) (hc : lo.cls = .type "list") (hd : lo.data = .seq vs.toArray n) (hsz : vs.length ≤ sizeLine)
    (hx : scope.names.lookup x = some .local) (hx₂ : scope.names.lookup x₂ = some .local) (hxx : ¬ x = x₂) (hk : scope.kind = .function) (hJ0 : J 0 []) (hlen : ∀ i ys, J i ys → ys.length ≤ i)
    (Pr : Nat → Value → Value → Prop) (hits : ∀ i v, vs[i]? = some v → ∃ (t : Addr) (ot : Obj) (v₁ v₂ : Value) (nt : Nat), v = .ref t ∧ (t, ot) ∈ news ∧ ot.cls = .type "tuple" ∧ ot.data = .seq #[v₁, v₂] nt ∧ Pr i v₁ v₂)
    (turn : ∀ i v₁ v₂ own C oC mC D ys h tk (E' : Value → Shared → Prop), Pr i v₁ v₂ → mC x = some v₁ → mC x₂ = some v₂ → NsObj oC mC → J i ys → Fr h₀ L h m → News h₀ L h ((C, oC) :: (D, lst ys) :: (news ++ own)) →
      wpAny (model prog w) A (isTrue ct (compEnvC scope cl C env) (eval ct (compEnvC scope cl C env))) (fun ok s' => if ok = true then
        wpAny (model prog w) A (eval elt (compEnvC scope cl C env)) (fun y s' => GEnd h₀ L m { s with heap := h, toks := tk } ((C, oC) :: (D, lst ys) :: (news ++ own)) (J (i + 1) (ys ++ [y])) s') E' s'
        else GEnd h₀ L m { s with heap := h, toks := tk } ((C, oC) :: (D, lst ys) :: (news ++ own)) (J (i + 1) ys) s') E' { s with heap := h, toks := tk })
    (hQ : ∀ D h tk ys, J vs.length ys → Fr h₀ L h m → News h₀ L h ((D, lst ys) :: news) → (∀ p ∈ news, p.1 < D) → Q (.ref D) { s with heap := h, toks := tk }) :
    wpAny (model prog w) A (pyIter (.ref ax)) (fun it s₂ => comp_genTAt prog w A h₀ L m env (.Tuple [.Name x px, .Name x₂ px₂] kk tp) ct elt scope cl Q it s₂) E s := src_pairs (o := some ct) J hh F N hm hc hd hsz hx hx₂ hxx hk hJ0 hlen Pr hits turn hQ
theorem src_enumT {l : Addr} {lo : Obj} {vs : List Value} {n : Nat} (J : Nat → List Value → Prop) (hh : A.handled = none) (F : Fr h₀ L s.heap m) (N : News h₀ L s.heap news) (hm : (l, lo) ∈ news) (hc : lo.cls = .type "list") (hd : lo.data = .seq vs.toArray n) (hsz : vs.length ≤ sizeLine)
    (hx : scope.names.lookup x = some .local) (hx₂ : scope.names.lookup x₂ = some .local) (hxx : ¬ x = x₂) (hk : scope.kind = .function) (hJ0 : J 0 []) (hlen : ∀ i ys, J i ys → ys.length ≤ i)
    (turn : ∀ i v t own C oC mC D ys h tk (E' : Value → Shared → Prop), vs[i]? = some v → mC x = some (.int i t) → mC x₂ = some v → NsObj oC mC → J i ys → Fr h₀ L h m → News h₀ L h ((C, oC) :: (D, lst ys) :: (news ++ own)) →
      wpAny (model prog w) A (isTrue ct (compEnvC scope cl C env) (eval ct (compEnvC scope cl C env))) (fun ok s' => if ok = true then
        wpAny (model prog w) A (eval elt (compEnvC scope cl C env)) (fun y s' => GEnd h₀ L m { s with heap := h, toks := tk } ((C, oC) :: (D, lst ys) :: (news ++ own)) (J (i + 1) (ys ++ [y])) s') E' s'
        else GEnd h₀ L m { s with heap := h, toks := tk } ((C, oC) :: (D, lst ys) :: (news ++ own)) (J (i + 1) ys) s') E' { s with heap := h, toks := tk })
    (hQ : ∀ D h tk ys, J vs.length ys → Fr h₀ L h m → News h₀ L h ((D, lst ys) :: news) → (∀ p ∈ news, p.1 < D) → Q (.ref D) { s with heap := h, toks := tk }) :
    wpAny (model prog w) A (call (.type "enumerate") [.ref l]) (fun xv s₁ => wpAny (model prog w) A (pyIter xv) (fun it s₂ => comp_genTAt prog w A h₀ L m env (.Tuple [.Name x px, .Name x₂ px₂] kk tp) ct elt scope cl Q it s₂) E s₁) E s := by
  have hax := N _ hm
  have hl : s.heap.IsList l vs.toArray := ⟨lo, hax.1, hc, n, hd⟩
  have hlt : l < s.heap.objs.size := Heap.lt_size hax.1
  have hLs : L < s.heap.objs.size := F.ns.lt
  refine call_enumerate_list hl fun h' hE hI hsz' hk' => ?_
  refine wpAny_pyIter_enum hE ?_
  have W := (WalksT.enumerate (prog := prog) (w := w) (A := A) hh (s.heap.objs.size + 1) s.heap.objs.size l (Nat.succ_ne_self _) (ktu_ne 1 hlt) (Nat.ne_of_lt hlt) vs.toArray).toU
  have esz : vs.toArray.size = vs.length := by simp
  rw [esz] at W
  refine ⟨s.heap.objs.size + 1, [s.heap.objs.size + 1, s.heap.objs.size, l], [s.heap.objs.size + 1, s.heap.objs.size], vs.length, _, _, _, news, J, fun i m₂ => ∃ v t, vs[i]? = some v ∧ m₂ x = some (.int i t) ∧ m₂ x₂ = some v, rfl, KTurns.ofWalksU W, fun s Q E st q => W.self 0 s Q E st q, fun b hb => ?_, fun hL => ?_, fun b hb => ?_, fun p hp hb => ?_,
    ⟨⟨.none, hE⟩, hI, hl.at fun o e => hk' l o e⟩, F.keeps hk', N.grown hk', hsz, hJ0, fun i ys _ => hlen i ys, ?_, ?_, fun D h tk ys hJ F' N' lt => hQ D h tk ys hJ F' N' lt⟩
  · show b < h'.objs.size
    have e1 := Heap.lt_size hE
    have hb' : b = s.heap.objs.size + 1 ∨ b = s.heap.objs.size ∨ b = l := by simpa using hb
    rcases hb' with rfl | rfl | rfl
    · exact e1
    · exact Nat.lt_of_succ_lt e1
    · exact Nat.lt_trans hlt (Nat.lt_of_succ_lt e1)
  · have hb' : L = s.heap.objs.size + 1 ∨ L = s.heap.objs.size ∨ L = l := by simpa using hL
    rcases hb' with e | e | e
    · exact ktu_ne 1 hLs e
    · exact Nat.ne_of_lt hLs e
    · exact hax.2.1 e.symm
  · have hb' : b = s.heap.objs.size + 1 ∨ b = s.heap.objs.size := by simpa using hb
    rcases hb' with rfl | rfl
    · exact ktu_new F (Nat.le_add_right _ _)
    · exact ktu_new F (Nat.le_refl _)
  · have hb' : p.1 = s.heap.objs.size + 1 ∨ p.1 = s.heap.objs.size := by simpa using hb
    have hlp := Heap.lt_size (N p hp).1
    rcases hb' with e | e
    · exact ktu_ne 1 hlp e
    · exact Nat.ne_of_lt hlp e
  · intro i v C mC s' Q' E' hi hP hn N' k
    obtain ⟨T, vals, rfl, ⟨t, v, hv, rfl⟩, hT⟩ := hP
    refine kcp_assign hh hT (lookup_relabel_local hx) (lookup_relabel_local hx₂) (by simp [compEnvC, relabel, hk]) hn fun h' tk hn' hk' => k h' tk _ hn' ⟨v, t, by simpa using hv, by simp [hxx], by simp⟩ fun b o hb e => hk' b o hb e
  · rintro i own C oC mC D ys h tk E' hi ⟨v, t, hv, b1, b2⟩ hoC hJ F' N'
    exact turn i v t own C oC mC D ys h tk E' hv b1 b2 hoC hJ F' N'
end
end
section
open PySem.Calls PySem.Spec PyProof.Rows.LCg
theorem w_WX_0 : True := by
  k_with_none
  k_with "M k_room" => first | exact (Room.deeper (by assumption) _).lt (k := 5) (by decide) | exact (Room.deeper (by assumption) _).lt (k := 0) (by decide)
  k_with "M k_mem" => first | assumption | exact List.Mem.head _ | (refine' List.Mem.tail _ ?_; k_extra "M k_mem")
  k_with "M call ref" => ((with_reducible show wpAny _ _ (call (Value.ref _) _) _ _ _); refine held ?_)
  k_with "M call ref" => (k_here; (with_reducible show wpAny _ _ (call (Value.ref 34) _) _ _ _); k_dflt (refine' bx_make (by assumption) (by assumption) (by assumption) (by k_room) (by first | exact Nat.zero_le _ | exact Nat.le_refl _) ?_); intro h'w tk'w e'w dx'w mb'w)
  k_with "M RaisesB" => (k_dflt (refine' raisesB_K (by assumption) (by assumption) ?_))
  k_with "M exec Raise some none" => (k_here; k_dflt (refine' raise_K (by assumption) (by assumption) rfl ?_))
  k_with "M exec Raise some none" => (k_here; (with_reducible show wpAny _ _ (exec (Stmt.Raise (some (Expr.Call (Expr.Name _ _) [Expr.Constant _ _ _] [] _)) none _) _) _ _ _); k_dflt (refine' raise_lit (Room.deeper (by assumption) _) (by assumption) (by assumption) (by assumption) ?_ (by decide) rfl rfl); intro h'w tk'w e'w dx'w mb'w)
  k_with "M getAttr ref" => (k_here; k_dflt (refine' get_own ?zzk1 ?zzk2 ?zzk3 ?zzk4 ?zzk5 ?zzk6 ?zzk7 ?zzk8 ?zzk9 ?_; (case zzk1 => k_asm); (case zzk2 => k_asm); (case zzk3 => k_inst); (case zzk4 => k_is); (case zzk5 => k_is); (case zzk6 => k_is); (case zzk7 => k_is); (case zzk8 => assumption); (case zzk9 => k_handed); k_whole))
  k_with "M eval Name" => (k_here; kc_free; k_dflt (refine' nameX_F ?zzN ?zzc ?zzm ?zzd ?_ ?zza ?zzb; (case zza => rfl); (case zzb => rfl); (case zzN => k_asm); (case zzc => rfl); (case zzm => k_mem); (case zzd => assumption); k_whole))
  k_with "M compareOp In int ref" => (k_here; k_dflt (refine kda_in (knd := PySem.intKind _ _) (by k_asm) (by k_mem) (by k_asm) (by k_asm) (intKind_is _ _ _ _) false (not_three (by omega) (by omega) (by omega)) ?_))
  k_with "M compareOp NotIn int ref" => (k_here; k_dflt (refine kdg_notin (knd := PySem.intKind _ _) (by k_asm) (by k_mem) (by k_asm) (by k_asm) (intKind_is _ _ _ _) false (not_three (by omega) (by omega) (by omega)) ?_))
  k_with "M pyIter ref" => ((with_reducible show wpAny _ _ (pyIter (Value.ref _)) (fun it s₂ => LoopAtV _ _ _ _ _ _ _ _ _ it s₂) _ _); l_hasStore; k_listUnr)
  k_with "M getMethod ref" => (k_here; (with_reducible show wpAny _ _ (getMethod (Value.ref _) (Str.ofString "get") _) _ _ _); k_dflt (refine kdg_method (knd := PySem.strKind _ _) (by assumption) (by k_mem) (by assumption) ?_))
  k_with "M call builtin:dict.get" => (k_here; k_dflt (refine kdg_get2 (knd := PySem.strKind _ _) (by assumption) (by k_mem) (by assumption) (by assumption) (strKind_is _ _ _ _) none (by rfl) ?_))
  k_with "M PassesOwn" => assumption
  k_with "M exec For Tuple Call cons nil" => (k_here; (rename Fr _ _ _ _ => lF'w); (with_unfolding_all refine' For_turns lF'w ?_ (by intro _; rfl) (by assumption); k_whole))
  k_with "M exec For Name Attribute cons nil" => (k_here; (rename Fr _ _ _ _ => lF'w); (with_unfolding_all refine' For_turns lF'w ?_ (by intro _; rfl) (by assumption); k_whole))
  k_with "M pyIter ref" => (k_here; (with_reducible show wpAny _ _ (pyIter (Value.ref _)) (fun it s₂ => TurnsAt _ _ _ _ _ _ _ _ _ it s₂) _ _); (rename Fr _ _ _ _ => lF'w); (rename News _ _ _ _ => lN'w); (with_unfolding_all first | refine kta_keys (knd := PySem.intKind _ _) (enc := PyData.int) (xs := [Itm.tok (fun t => Value.int 1 t), Itm.tok (fun t => Value.int 2 t), Itm.tok (fun t => Value.int 3 t)]) (by rfl) lF'w lN'w (by k_mem) (by assumption) (by assumption) (fun _ _ h => Value.isInt_shape h) (by rfl) ?_ | refine kta_keys (knd := PySem.intKind _ _) (enc := PyData.int) (xs := [Itm.tok (fun t => Value.int 1 t), Itm.tok (fun t => Value.int 2 t)]) (by rfl) lF'w lN'w (by k_mem) (by assumption) (by assumption) (fun _ _ h => Value.isInt_shape h) (by rfl) ?_ | refine kta_keys (knd := PySem.intKind _ _) (enc := PyData.int) (xs := [Itm.tok (fun t => Value.int 1 t)]) (by rfl) lF'w lN'w (by k_mem) (by assumption) (by assumption) (fun _ _ h => Value.isInt_shape h) (by rfl) ?_ | refine kta_keys (knd := PySem.intKind _ _) (enc := PyData.int) (xs := []) (by rfl) lF'w lN'w (by k_mem) (by assumption) (by assumption) (fun _ _ h => Value.isInt_shape h) (by rfl) ?_); clear lF'w lN'w; intro i'w l1'w; (try k_lt l1'w))
  k_with "M compareOp NotEq ref ref" => (k_here; k_dflt (refine ke_ne_ints (by is_list) (by is_list) (by l_ints) (by l_ints) (Room.room (Room.deeper (by assumption) _) (by decide)) ?_); ke_norm)
  k_with "M eval ListComp" => (k_here; lct_look; (with_reducible show wpAny _ _ (eval (Expr.ListComp _ [⟨Expr.Name _ _, Expr.Name _ _, _, _⟩] _ _) _) _ _ _); k_dflt (refine comp_str (F₀ := by k_asm) (by with_unfolding_all rfl) (by decide) (by rfl) (by decide) (by rfl) ?_))
  k_with "M StrSrcT" => (k_here; (with_unfolding_all refine ⟨_, _, _, _, _, rfl, (by rfl), (by assumption), (by assumption), (by assumption), (by assumption), rfl, (by assumption), ?_⟩); intro g'w; refine held ?_)
  k_with "M CompRestT" => ((with_unfolding_all refine LCt.CompRestT.succ ?_); intro v'w I'w oI'w C'w oC'w D'w m'w h'w tk'w E'w hv'w hC'w hx'w F'w N'w off'w ne'w; (obtain ⟨t9'w, hv9'w⟩ := hv'w); subst hv9'w; (try simp only [List.getD_cons_zero, List.getD_cons_succ] at hx'w))
  k_with "M lcg_off" => assumption
  k_with "M lcg_src" => first | exact True.intro | (show _ ∈ _; k_mem)
  k_with "M And" => (k_here; (exact ⟨by first | rfl | exact decide_eq_false (by omega), _, rfl⟩))
  k_with "M subscriptTail" => (k_here; (try ((fail_if_success (with_reducible show wpAny _ _ (subscriptTail (Expr.Name _ _) _ _ _) _ _ _)); k_dflt (refine kba_turn (value' := Expr.Name "_" ⟨0, 0, 0, 0⟩) (fun _ => rfl) ?_))); k_dflt (first
  | ((with_reducible show wpAny _ _ (subscriptTail _ _ (Value.ref _) (Value.str _ _)) _ _ _); refine kda_item (knd := PySem.strKind _ _) (by assumption) (by k_mem) (by assumption) (strKind_is _ _ _ _) (by rfl) ?_)
  | ((with_reducible show wpAny _ _ (subscriptTail _ _ (Value.ref _) (Value.int _ _)) _ _ _); refine kda_item (knd := PySem.intKind _ _) (by assumption) (by k_mem) (by assumption) (intKind_is _ _ _ _) (by rfl) ?_)))
  k_with "M compareOp In int ref" => (k_here; k_dflt (refine kda_in (knd := PySem.intKind _ _) (by assumption) (by k_mem) (by assumption) (by assumption) (intKind_is _ _ _ _) true (by rfl) ?_))
  k_with "M compareOp NotIn int ref" => (k_here; k_dflt (refine kdg_notin (knd := PySem.intKind _ _) (by assumption) (by k_mem) (by assumption) (by assumption) (intKind_is _ _ _ _) true (by rfl) ?_); (try dsimp only [Bool.not_true]))
  k_with "M compareOp NotIn str ref" => (k_here; k_dflt (first
  | refine kdg_notin (knd := PySem.strKind _ _) (by assumption) (by k_mem) (by assumption) (by assumption) (strKind_is _ _ _ _) true (by rfl) ?_
  | refine kdg_notin (knd := PySem.strKind _ _) (by assumption) (by k_mem) (by assumption) (by assumption) (strKind_is _ _ _ _) false (by rfl) ?_
  | refine notin_tuple_strs (News.isTup (by assumption) (by k_mem)) (by repeat constructor) ?_); (try dsimp only [Bool.not_true, Bool.not_false]))
  k_with "M compareOp In str ref" => (k_here; k_dflt (first
  | refine kda_in (knd := PySem.strKind _ _) (by assumption) (by k_mem) (by assumption) (by assumption) (strKind_is _ _ _ _) true (by rfl) ?_
  | refine kda_in (knd := PySem.strKind _ _) (by assumption) (by k_mem) (by assumption) (by assumption) (strKind_is _ _ _ _) false (by rfl) ?_))
  trivial
abbrev tup (vs : List Value) : Obj := { cls := .type "tuple", data := .seq vs.toArray }
theorem fill_up {w : World} {h : Heap} (X : (hd.heap_1_39 w.params).In h) : RW.row.prog = RW.row.prog := by
  revert X; k_fill; intro _; rfl

theorem chan_BM1 {w : World} {W dW C dC dO dF dA PL : Addr} {esW esC : List DictEntry} {nW nC : Nat} {ls : List (Addr × Obj)} {T : Addr} {tc u : Tok} (mT : (T, tup [.str "I" u]) ∈ ls) (X : CW w W dW C dC dO dF dA PL esW esC nW nC ls) : RaisesK 305 w ls (call (.ref 302) [.ref W, .int 1 tc, .ref T]) "BM" := by
  refine' def_raises (binds := [("world", .ref W), ("channel", .int 1 tc), ("modes", .ref T)]) ?ho ?hcd ?hb ?hl ?c2 ?c3 ?c4 ?c5 ?hn ?_
  case ho => k_is
  case hcd => k_is
  case hb => first | exact fun s _ => BindsTo.of_eq rfl | exact fun s Xs => binds_K Xs rfl (by k_is) rfl rfl rfl
  case hl => exact locs rfl
  case c2 => exact rfl
  case c3 => exact rfl
  case c4 => exact rfl
  case c5 => decide
  case hn => decide
  intro A base g outer L mg mb p loose mean s Q E hr B F Xk Tp N hPO hE1 hE2
  have mW := X.mW
  have mdW := X.mdW
  have gO := X.wf.op
  refine X.open3 fun {oO d1 d2 d3 o1 o2 o3 buf t11 t12 t13 t14 t15 t16 t21 t22 t23 t24 t25 t26 t31 t32 t33 t34 t35 t36} mO hO loO m1 h1 lo1 m2 h2 lo2 m3 h3 lo3 => ?_
  k_steps
  all_goals exact hE1 _ _ _ _ _ _ _ (by assumption) (by assumption) (by assumption) (fun q hq => by (repeat (first | exact hq | refine List.Mem.tail _ ?_)))

theorem chan_BM2a {w : World} {W dW C dC dO dF dA PL : Addr} {esW esC : List DictEntry} {nW nC : Nat} {ls : List (Addr × Obj)} {T : Addr} {tc u u2 : Tok} (mT : (T, tup [.str "O" u, .str "A" u2]) ∈ ls) (X : CW w W dW C dC dO dF dA PL esW esC nW nC ls) : RaisesK 305 w ls (call (.ref 302) [.ref W, .int 2 tc, .ref T]) "BM" := by
  refine' def_raises (binds := [("world", .ref W), ("channel", .int 2 tc), ("modes", .ref T)]) ?ho ?hcd ?hb ?hl ?c2 ?c3 ?c4 ?c5 ?hn ?_
  case ho => k_is
  case hcd => k_is
  case hb => first | exact fun s _ => BindsTo.of_eq rfl | exact fun s Xs => binds_K Xs rfl (by k_is) rfl rfl rfl
  case hl => exact locs rfl
  case c2 => exact rfl
  case c3 => exact rfl
  case c4 => exact rfl
  case c5 => decide
  case hn => decide
  intro A base g outer L mg mb p loose mean s Q E hr B F Xk Tp N hPO hE1 hE2
  have mW := X.mW
  have mdW := X.mdW
  have gO := X.wf.op
  refine X.open3 fun {oO d1 d2 d3 o1 o2 o3 buf t11 t12 t13 t14 t15 t16 t21 t22 t23 t24 t25 t26 t31 t32 t33 t34 t35 t36} mO hO loO m1 h1 lo1 m2 h2 lo2 m3 h3 lo3 => ?_
  k_steps
  all_goals exact hE1 _ _ _ _ _ _ _ (by assumption) (by assumption) (by assumption) (fun q hq => by (repeat (first | exact hq | refine List.Mem.tail _ ?_)))

theorem chan_BM2b {w : World} {W dW C dC dO dF dA PL : Addr} {esW esC : List DictEntry} {nW nC : Nat} {ls : List (Addr × Obj)} {T : Addr} {tc u : Tok} (mT : (T, tup [.str "R" u]) ∈ ls) (X : CW w W dW C dC dO dF dA PL esW esC nW nC ls) : RaisesK 304 w ls (call (.ref 302) [.ref W, .int 2 tc, .ref T]) "BM" := by
  refine' def_raises (binds := [("world", .ref W), ("channel", .int 2 tc), ("modes", .ref T)]) ?ho ?hcd ?hb ?hl ?c2 ?c3 ?c4 ?c5 ?hn ?_
  case ho => k_is
  case hcd => k_is
  case hb => first | exact fun s _ => BindsTo.of_eq rfl | exact fun s Xs => binds_K Xs rfl (by k_is) rfl rfl rfl
  case hl => exact locs rfl
  case c2 => exact rfl
  case c3 => exact rfl
  case c4 => exact rfl
  case c5 => decide
  case hn => decide
  intro A base g outer L mg mb p loose mean s Q E hr B F Xk Tp N hPO hE1 hE2
  have mW := X.mW
  have mdW := X.mdW
  have gO := X.wf.op
  refine X.open3 fun {oO d1 d2 d3 o1 o2 o3 buf t11 t12 t13 t14 t15 t16 t21 t22 t23 t24 t25 t26 t31 t32 t33 t34 t35 t36} mO hO loO m1 h1 lo1 m2 h2 lo2 m3 h3 lo3 => ?_
  k_steps
  all_goals exact hE1 _ _ _ _ _ _ _ (by assumption) (by assumption) (by assumption) (fun q hq => by (repeat (first | exact hq | refine List.Mem.tail _ ?_)))

theorem chan_BN {w : World} {W dW C dC dO dF dA PL : Addr} {esW esC : List DictEntry} {nW nC : Nat} {ls : List (Addr × Obj)} {T : Addr} {tc u : Tok} {fr : Int} (hfr : 4 ≤ fr ∧ fr ≤ 11) (mT : (T, tup [.str "I" u]) ∈ ls) (X : CW w W dW C dC dO dF dA PL esW esC nW nC ls) : RaisesK 305 w ls (call (.ref 302) [.ref W, .int fr tc, .ref T]) "BN" := by
  refine' def_raises (binds := [("world", .ref W), ("channel", .int fr tc), ("modes", .ref T)]) ?ho ?hcd ?hb ?hl ?c2 ?c3 ?c4 ?c5 ?hn ?_
  case ho => k_is
  case hcd => k_is
  case hb => first | exact fun s _ => BindsTo.of_eq rfl | exact fun s Xs => binds_K Xs rfl (by k_is) rfl rfl rfl
  case hl => exact locs rfl
  case c2 => exact rfl
  case c3 => exact rfl
  case c4 => exact rfl
  case c5 => decide
  case hn => decide
  intro A base g outer L mg mb p loose mean s Q E hr B F Xk Tp N hPO hE1 hE2
  have mW := X.mW
  have mdW := X.mdW
  have gO := X.wf.op
  refine X.open3 fun {oO d1 d2 d3 o1 o2 o3 buf t11 t12 t13 t14 t15 t16 t21 t22 t23 t24 t25 t26 t31 t32 t33 t34 t35 t36} mO hO loO m1 h1 lo1 m2 h2 lo2 m3 h3 lo3 => ?_
  k_steps
  all_goals exact hE1 _ _ _ _ _ _ _ (by assumption) (by assumption) (by assumption) (fun q hq => by (repeat (first | exact hq | refine List.Mem.tail _ ?_)))

theorem chan_OK2 {w : World} {W dW dO : Addr} {esW : List DictEntry} {nW : Nat} {ls : List (Addr × Obj)} {T : Addr} {tc u : Tok} (mT : (T, tup [.str "I" u]) ∈ ls) {oO o2 : Obj} {d1 d2 d3 : Addr} {b1 b2 : Str} {t1 t2 t3 t4 t5 t6 : Tok} {sz : Int} (mW : (W, instObj 386 dW) ∈ ls) (mdW : (dW, dictOf esW nW) ∈ ls) (gO : getL "open" esW = some (some (.ref dO))) (mO : (dO, oO) ∈ ls) (hO : oO.IsDictOf (PySem.intKind RW.row.prog w) [(1, .ref d1), (2, .ref d2), (3, .ref d3)]) (loO : (dO == sysModules) = false) (m2 : (d2, o2) ∈ ls) (h2 : o2.IsDictOf (PySem.strKind RW.row.prog w) [("mode", .str "I" t1), ("name", .str b1 t2), ("at", .int 0 t3), ("size", .int sz t4), ("buffer", .str b2 t5), ("record", .int 0 t6)])  : GivesK 305 w ls (call (.ref 302) [.ref W, .int 2 tc, .ref T]) (fun v => v = .ref d2) := by
  refine' def_gives (binds := [("world", .ref W), ("channel", .int 2 tc), ("modes", .ref T)]) ?ho ?hcd ?hb ?hl ?c2 ?c3 ?c4 ?c5 ?hn ?_
  case ho => k_is
  case hcd => k_is
  case hb => first | exact fun s _ => BindsTo.of_eq rfl | exact fun s Xs => binds_K Xs rfl (by k_is) rfl rfl rfl
  case hl => exact locs rfl
  case c2 => exact rfl
  case c3 => exact rfl
  case c4 => exact rfl
  case c5 => decide
  case hn => decide
  intro A base g outer L mg mb p loose mean s Q E hr B F Xk Tp N hPO hQ
  k_steps
  all_goals (try exact hQ _ _ _ _ rfl (by assumption) (by assumption) (fun q hq => by (repeat (first | exact hq | refine List.Mem.tail _ ?_))))

theorem chan_OK3 {w : World} {W dW dO : Addr} {esW : List DictEntry} {nW : Nat} {ls : List (Addr × Obj)} {T : Addr} {tc u : Tok} (mT : (T, tup [.str "R" u]) ∈ ls) {oO o3 : Obj} {d1 d2 d3 : Addr} {b1 b2 : Str} {t1 t2 t3 t4 t5 t6 : Tok} {sz : Int} (mW : (W, instObj 386 dW) ∈ ls) (mdW : (dW, dictOf esW nW) ∈ ls) (gO : getL "open" esW = some (some (.ref dO))) (mO : (dO, oO) ∈ ls) (hO : oO.IsDictOf (PySem.intKind RW.row.prog w) [(1, .ref d1), (2, .ref d2), (3, .ref d3)]) (loO : (dO == sysModules) = false) (m3 : (d3, o3) ∈ ls) (h3 : o3.IsDictOf (PySem.strKind RW.row.prog w) [("mode", .str "R" t1), ("name", .str b1 t2), ("at", .int 0 t3), ("size", .int sz t4), ("buffer", .str b2 t5), ("record", .int 0 t6)])  : GivesK 304 w ls (call (.ref 302) [.ref W, .int 3 tc, .ref T]) (fun v => v = .ref d3) := by
  refine' def_gives (binds := [("world", .ref W), ("channel", .int 3 tc), ("modes", .ref T)]) ?ho ?hcd ?hb ?hl ?c2 ?c3 ?c4 ?c5 ?hn ?_
  case ho => k_is
  case hcd => k_is
  case hb => first | exact fun s _ => BindsTo.of_eq rfl | exact fun s Xs => binds_K Xs rfl (by k_is) rfl rfl rfl
  case hl => exact locs rfl
  case c2 => exact rfl
  case c3 => exact rfl
  case c4 => exact rfl
  case c5 => decide
  case hn => decide
  intro A base g outer L mg mb p loose mean s Q E hr B F Xk Tp N hPO hQ
  k_steps
  all_goals (try exact hQ _ _ _ _ rfl (by assumption) (by assumption) (fun q hq => by (repeat (first | exact hq | refine List.Mem.tail _ ?_))))

theorem rest_R {w : World} {W : Addr} {ls : List (Addr × Obj)} {v : Value} {code : Str} (H : ∀ {ls2}, (∀ q ∈ ls, q ∈ ls2) → ∀ {T : Addr} {u : Tok}, (T, tup [.str "I" u]) ∈ ls2 → RaisesK 305 w ls2 (call (.ref 302) [.ref W, v, .ref T]) code)  : RaisesK 304 w ls (call (.ref 328) [.ref W, v]) code := by
  refine' def_raises (binds := [("world", .ref W), ("channel", v)]) ?ho ?hcd ?hb ?hl ?c2 ?c3 ?c4 ?c5 ?hn ?_
  case ho => k_is
  case hcd => k_is
  case hb => first | exact fun s _ => BindsTo.of_eq rfl | exact fun s Xs => binds_K Xs rfl (by k_is) rfl rfl rfl
  case hl => exact locs rfl
  case c2 => exact rfl
  case c3 => exact rfl
  case c4 => exact rfl
  case c5 => decide
  case hn => decide
  intro A base g outer L mg mb p loose mean s Q E hr B F Xk Tp N hPO hE1 hE2
  k_steps
  all_goals (unfold Held)
  exact H (fun q hq => .tail _ hq) (.head _) hr (by assumption) (by assumption) (by assumption) (by assumption) rfl rfl (by assumption) (fun g h' tk e dx tc ls' hs => hE2 g h' tk e dx tc ls' (fun q hq => hs q (.tail _ hq)))

theorem read_R {w : World} {W : Addr} {ls : List (Addr × Obj)} {v : Value} {code : Str} (H : RaisesK 304 w ls (call (.ref 328) [.ref W, v]) code)  : RaisesK 303 w ls (call (.ref 342) [.ref W, v]) code := by
  refine' def_raises (binds := [("world", .ref W), ("channel", v)]) ?ho ?hcd ?hb ?hl ?c2 ?c3 ?c4 ?c5 ?hn ?_
  case ho => k_is
  case hcd => k_is
  case hb => first | exact fun s _ => BindsTo.of_eq rfl | exact fun s Xs => binds_K Xs rfl (by k_is) rfl rfl rfl
  case hl => exact locs rfl
  case c2 => exact rfl
  case c3 => exact rfl
  case c4 => exact rfl
  case c5 => decide
  case hn => decide
  intro A base g outer L mg mb p loose mean s Q E hr B F Xk Tp N hPO hE1 hE2
  k_steps
  all_goals (unfold Held)
  exact H hr (by assumption) (by assumption) (by assumption) (by assumption) rfl rfl (by assumption) (fun g h' tk e dx tc ls' hs => hE2 g h' tk e dx tc ls' hs)

theorem rest_OK2 {w : World} {W dW C dC dO dF dA PL : Addr} {esW esC : List DictEntry} {nW nC : Nat} {ls : List (Addr × Obj)} {tc : Tok} (X : CW w W dW C dC dO dF dA PL esW esC nW nC ls) : GivesK 304 w ls (call (.ref 328) [.ref W, .int 2 tc]) (fun v => ∃ t, v = .str "" t) := by
  refine' def_gives (binds := [("world", .ref W), ("channel", .int 2 tc)]) ?ho ?hcd ?hb ?hl ?c2 ?c3 ?c4 ?c5 ?hn ?_
  case ho => k_is
  case hcd => k_is
  case hb => first | exact fun s _ => BindsTo.of_eq rfl | exact fun s Xs => binds_K Xs rfl (by k_is) rfl rfl rfl
  case hl => exact locs rfl
  case c2 => exact rfl
  case c3 => exact rfl
  case c4 => exact rfl
  case c5 => decide
  case hn => decide
  intro A base g outer L mg mb p loose mean s Q E hr B F Xk Tp N hPO hQ
  have mW := X.mW
  have mdW := X.mdW
  have gO := X.wf.op
  refine X.open3 fun {oO d1 d2 d3 o1 o2 o3 buf t11 t12 t13 t14 t15 t16 t21 t22 t23 t24 t25 t26 t31 t32 t33 t34 t35 t36} mO hO loO m1 h1 lo1 m2 h2 lo2 m3 h3 lo3 => ?_
  refine X.files fun {oF tfB tfA tfC} mF hF loF => ?_
  have gF := X.wf.fi
  k_steps
  all_goals (unfold Held)
  refine chan_OK2 (List.Mem.head _) (.tail _ mW) (.tail _ mdW) gO (.tail _ mO) hO loO (.tail _ m2) h2 hr (by assumption) (by assumption) (by assumption) (by assumption) rfl rfl (by assumption) (fun v h9 tk9 hv F9 N9 => ?_)
  subst hv
  k_sweep
  k_steps
  exact hQ _ _ _ _ ⟨_, rfl⟩ (by assumption) (by assumption) (fun q hq => by (repeat (first | exact hq | refine List.Mem.tail _ ?_)))

theorem read_EF {w : World} {W dW C dC dO dF dA PL : Addr} {esW esC : List DictEntry} {nW nC : Nat} {ls : List (Addr × Obj)} {tc : Tok} (X : CW w W dW C dC dO dF dA PL esW esC nW nC ls) : RaisesK 303 w ls (call (.ref 342) [.ref W, .int 2 tc]) "EF" := by
  refine' def_raises (binds := [("world", .ref W), ("channel", .int 2 tc)]) ?ho ?hcd ?hb ?hl ?c2 ?c3 ?c4 ?c5 ?hn ?_
  case ho => k_is
  case hcd => k_is
  case hb => first | exact fun s _ => BindsTo.of_eq rfl | exact fun s Xs => binds_K Xs rfl (by k_is) rfl rfl rfl
  case hl => exact locs rfl
  case c2 => exact rfl
  case c3 => exact rfl
  case c4 => exact rfl
  case c5 => decide
  case hn => decide
  intro A base g outer L mg mb p loose mean s Q E hr B F Xk Tp N hPO hE1 hE2
  k_steps
  all_goals (unfold Held)
  refine rest_OK2 X hr (by assumption) (by assumption) (by assumption) (by assumption) rfl rfl (by assumption) (fun v h9 tk9 hv F9 N9 => ?_)
  obtain ⟨t, rfl⟩ := hv
  k_sweep
  k_steps
  all_goals exact hE1 _ _ _ _ _ _ _ (by assumption) (by assumption) (by assumption) (fun q hq => by (repeat (first | exact hq | refine List.Mem.tail _ ?_)))

theorem text_R {w : World} {W dW C dC dO dF dA PL : Addr} {esW esC : List DictEntry} {nW nC : Nat} {ls : List (Addr × Obj)} {tc : Tok} {v : Value} (X : CW w W dW C dC dO dF dA PL esW esC nW nC ls) : RaisesK 304 w ls (call (.ref 314) [.ref W, .int 2 tc, v]) "BM" := by
  refine' def_raises (binds := [("world", .ref W), ("channel", .int 2 tc), ("text", v)]) ?ho ?hcd ?hb ?hl ?c2 ?c3 ?c4 ?c5 ?hn ?_
  case ho => k_is
  case hcd => k_is
  case hb => first | exact fun s _ => BindsTo.of_eq rfl | exact fun s Xs => binds_K Xs rfl (by k_is) rfl rfl rfl
  case hl => exact locs rfl
  case c2 => exact rfl
  case c3 => exact rfl
  case c4 => exact rfl
  case c5 => decide
  case hn => decide
  intro A base g outer L mg mb p loose mean s Q E hr B F Xk Tp N hPO hE1 hE2
  k_steps
  all_goals (unfold Held)
  exact (chan_BM2a (.head _) (X.mono fun q hq => .tail _ hq)) hr (by assumption) (by assumption) (by assumption) (by assumption) rfl rfl (by assumption) (fun g h' tk e dx tc ls' hs => hE2 g h' tk e dx tc ls' (fun q hq => hs q (.tail _ hq)))

theorem row_R {w : World} {W dW C dC dO dF dA PL : Addr} {esW esC : List DictEntry} {nW nC : Nat} {ls : List (Addr × Obj)} {tc td : Tok} (X : CW w W dW C dC dO dF dA PL esW esC nW nC ls) : RaisesK 303 w ls (call (.ref 321) [.ref W, .int 2 tc, .str "x" td]) "BM" := by
  refine' def_raises (binds := [("world", .ref W), ("channel", .int 2 tc), ("text", .str "x" td)]) ?ho ?hcd ?hb ?hl ?c2 ?c3 ?c4 ?c5 ?hn ?_
  case ho => k_is
  case hcd => k_is
  case hb => first | exact fun s _ => BindsTo.of_eq rfl | exact fun s Xs => binds_K Xs rfl (by k_is) rfl rfl rfl
  case hl => exact locs rfl
  case c2 => exact rfl
  case c3 => exact rfl
  case c4 => exact rfl
  case c5 => decide
  case hn => decide
  intro A base g outer L mg mb p loose mean s Q E hr B F Xk Tp N hPO hE1 hE2
  k_steps
  all_goals (unfold Held)
  exact (text_R X) hr (by assumption) (by assumption) (by assumption) (by assumption) rfl rfl (by assumption) (fun g h' tk e dx tc ls' hs => hE2 g h' tk e dx tc ls' hs)

theorem told_BN {w : World} {ls : List (Addr × Obj)} {D : Addr} {tc : Tok}  : RaisesK 304 w ls (call (.ref 354) [.ref D, .int 0 tc]) "BN" := by
  refine' def_raises (binds := [("found", .ref D), ("number", .int 0 tc)]) ?ho ?hcd ?hb ?hl ?c2 ?c3 ?c4 ?c5 ?hn ?_
  case ho => k_is
  case hcd => k_is
  case hb => first | exact fun s _ => BindsTo.of_eq rfl | exact fun s Xs => binds_K Xs rfl (by k_is) rfl rfl rfl
  case hl => exact locs rfl
  case c2 => exact rfl
  case c3 => exact rfl
  case c4 => exact rfl
  case c5 => decide
  case hn => decide
  intro A base g outer L mg mb p loose mean s Q E hr B F Xk Tp N hPO hE1 hE2
  k_steps
  all_goals exact hE1 _ _ _ _ _ _ _ (by assumption) (by assumption) (by assumption) (fun q hq => by (repeat (first | exact hq | refine List.Mem.tail _ ?_)))

theorem told_OK {w : World} {ls : List (Addr × Obj)} {D : Addr} {k : Int} {tc : Tok} (h1 : 1 ≤ k) (h2 : k ≤ 9)  : GivesK 304 w ls (call (.ref 354) [.ref D, .int k tc]) (fun v => v = .int k tc) := by
  refine' def_gives (binds := [("found", .ref D), ("number", .int k tc)]) ?ho ?hcd ?hb ?hl ?c2 ?c3 ?c4 ?c5 ?hn ?_
  case ho => k_is
  case hcd => k_is
  case hb => first | exact fun s _ => BindsTo.of_eq rfl | exact fun s Xs => binds_K Xs rfl (by k_is) rfl rfl rfl
  case hl => exact locs rfl
  case c2 => exact rfl
  case c3 => exact rfl
  case c4 => exact rfl
  case c5 => decide
  case hn => decide
  intro A base g outer L mg mb p loose mean s Q E hr B F Xk Tp N hPO hQ
  k_steps
  all_goals (try exact hQ _ _ _ _ rfl (by assumption) (by assumption) (fun q hq => by (repeat (first | exact hq | refine List.Mem.tail _ ?_))))

theorem get_BM {w : World} {W dW C dC dO dF dA PL : Addr} {esW esC : List DictEntry} {nW nC : Nat} {ls : List (Addr × Obj)} {tc td : Tok} (X : CW w W dW C dC dO dF dA PL esW esC nW nC ls) : RaisesK 303 w ls (call (.ref 361) [.ref W, .int 2 tc, .int 1 td]) "BM" := by
  refine' def_raises (binds := [("world", .ref W), ("channel", .int 2 tc), ("number", .int 1 td)]) ?ho ?hcd ?hb ?hl ?c2 ?c3 ?c4 ?c5 ?hn ?_
  case ho => k_is
  case hcd => k_is
  case hb => first | exact fun s _ => BindsTo.of_eq rfl | exact fun s Xs => binds_K Xs rfl (by k_is) rfl rfl rfl
  case hl => exact locs rfl
  case c2 => exact rfl
  case c3 => exact rfl
  case c4 => exact rfl
  case c5 => decide
  case hn => decide
  intro A base g outer L mg mb p loose mean s Q E hr B F Xk Tp N hPO hE1 hE2
  k_steps
  all_goals (unfold Held)
  exact (chan_BM2b (.head _) (X.mono fun q hq => .tail _ hq)) hr (by assumption) (by assumption) (by assumption) (by assumption) rfl rfl (by assumption) (fun g h' tk e dx tc ls' hs => hE2 g h' tk e dx tc ls' (fun q hq => hs q (.tail _ hq)))

theorem get_BN {w : World} {W dW C dC dO dF dA PL : Addr} {esW esC : List DictEntry} {nW nC : Nat} {ls : List (Addr × Obj)} {tc td : Tok} (X : CW w W dW C dC dO dF dA PL esW esC nW nC ls) : RaisesK 303 w ls (call (.ref 361) [.ref W, .int 3 tc, .int 0 td]) "BN" := by
  refine' def_raises (binds := [("world", .ref W), ("channel", .int 3 tc), ("number", .int 0 td)]) ?ho ?hcd ?hb ?hl ?c2 ?c3 ?c4 ?c5 ?hn ?_
  case ho => k_is
  case hcd => k_is
  case hb => first | exact fun s _ => BindsTo.of_eq rfl | exact fun s Xs => binds_K Xs rfl (by k_is) rfl rfl rfl
  case hl => exact locs rfl
  case c2 => exact rfl
  case c3 => exact rfl
  case c4 => exact rfl
  case c5 => decide
  case hn => decide
  intro A base g outer L mg mb p loose mean s Q E hr B F Xk Tp N hPO hE1 hE2
  have mW := X.mW
  have mdW := X.mdW
  have gO := X.wf.op
  refine X.open3 fun {oO d1 d2 d3 o1 o2 o3 buf t11 t12 t13 t14 t15 t16 t21 t22 t23 t24 t25 t26 t31 t32 t33 t34 t35 t36} mO hO loO m1 h1 lo1 m2 h2 lo2 m3 h3 lo3 => ?_
  k_steps
  all_goals (unfold Held)
  refine chan_OK3 (List.Mem.head _) (.tail _ mW) (.tail _ mdW) gO (.tail _ mO) hO loO (.tail _ m3) h3 hr (by assumption) (by assumption) (by assumption) (by assumption) rfl rfl (by assumption) (fun v h9 tk9 hv F9 N9 => ?_)
  subst hv
  k_sweep
  k_steps
  all_goals (unfold Held)
  exact told_BN hr (by assumption) (by assumption) (by assumption) (by assumption) rfl rfl (by assumption) (fun g h' tk e dx tc ls' hs => hE2 g h' tk e dx tc ls' (fun q hq => hs q (.tail _ hq)))

theorem get_EF {w : World} {W dW C dC dO dF dA PL : Addr} {esW esC : List DictEntry} {nW nC : Nat} {ls : List (Addr × Obj)} {tc td : Tok} {sz : Int} (hsz : 1 ≤ sz ∧ sz ≤ 8) (X : CW w W dW C dC dO dF dA PL esW esC nW nC ls) : RaisesK 303 w ls (call (.ref 361) [.ref W, .int 3 tc, .int sz td]) "EF" := by
  refine' def_raises (binds := [("world", .ref W), ("channel", .int 3 tc), ("number", .int sz td)]) ?ho ?hcd ?hb ?hl ?c2 ?c3 ?c4 ?c5 ?hn ?_
  case ho => k_is
  case hcd => k_is
  case hb => first | exact fun s _ => BindsTo.of_eq rfl | exact fun s Xs => binds_K Xs rfl (by k_is) rfl rfl rfl
  case hl => exact locs rfl
  case c2 => exact rfl
  case c3 => exact rfl
  case c4 => exact rfl
  case c5 => decide
  case hn => decide
  intro A base g outer L mg mb p loose mean s Q E hr B F Xk Tp N hPO hE1 hE2
  have mW := X.mW
  have mdW := X.mdW
  have gO := X.wf.op
  refine X.open3 fun {oO d1 d2 d3 o1 o2 o3 buf t11 t12 t13 t14 t15 t16 t21 t22 t23 t24 t25 t26 t31 t32 t33 t34 t35 t36} mO hO loO m1 h1 lo1 m2 h2 lo2 m3 h3 lo3 => ?_
  refine X.files fun {oF tfB tfA tfC} mF hF loF => ?_
  have gF := X.wf.fi
  k_steps
  all_goals (unfold Held)
  refine chan_OK3 (List.Mem.head _) (.tail _ mW) (.tail _ mdW) gO (.tail _ mO) hO loO (.tail _ m3) h3 hr (by assumption) (by assumption) (by assumption) (by assumption) rfl rfl (by assumption) (fun v h9 tk9 hv F9 N9 => ?_)
  subst hv
  k_sweep
  k_steps
  all_goals (unfold Held)
  refine (told_OK (by omega) (by omega)) hr (by assumption) (by assumption) (by assumption) (by assumption) rfl rfl (by assumption) (fun v h9 tk9 hv F9 N9 => ?_)
  subst hv
  k_sweep
  k_steps
  all_goals exact hE1 _ _ _ _ _ _ _ (by assumption) (by assumption) (by assumption) (fun q hq => by (repeat (first | exact hq | refine List.Mem.tail _ ?_)))

theorem isw_no {w : World} {W dW C dC dO dF dA PL : Addr} {esW esC : List DictEntry} {nW nC : Nat} {ls : List (Addr × Obj)} {md : Str} {td : Tok} {x : Str} {tx : Tok} (xA : (("A" : Str) == x) = false) (xB : (("B" : Str) == x) = false) (xC : (("C" : Str) == x) = false) (X : CW w W dW C dC dO dF dA PL esW esC nW nC ls) : GivesK 304 w ls (call (.ref 295) [.ref W, .str md td, .str x tx]) (fun v => v = .bool false) := by
  have mW := X.mW
  have mdW := X.mdW
  have gO := X.wf.op
  refine X.open3 fun {oO d1 d2 d3 o1 o2 o3 buf t11 t12 t13 t14 t15 t16 t21 t22 t23 t24 t25 t26 t31 t32 t33 t34 t35 t36} mO hO loO m1 h1 lo1 m2 h2 lo2 m3 h3 lo3 => ?_
  refine' def_gives_sub [(W, instObj 386 dW), (dW, dictOf esW nW), (dO, oO), (d1, o1), (d2, o2), (d3, o3)] (binds := [("world", .ref W), ("mode", .str md td), ("name", .str x tx)]) ?ho ?hcd ?hb ?hl ?c2 ?c3 ?c4 ?c5 ?hn ?hs ?_
  case ho => k_is
  case hcd => k_is
  case hb => first | exact fun s _ => BindsTo.of_eq rfl | exact fun s Xs => binds_K Xs rfl (by k_is) rfl rfl rfl
  case hl => exact locs rfl
  case c2 => exact rfl
  case c3 => exact rfl
  case c4 => exact rfl
  case c5 => decide
  case hn => decide
  case hs => exact List.forall_mem_cons.mpr ⟨mW, List.forall_mem_cons.mpr ⟨mdW, List.forall_mem_cons.mpr ⟨mO, List.forall_mem_cons.mpr ⟨m1, List.forall_mem_cons.mpr ⟨m2, List.forall_mem_cons.mpr ⟨m3, List.forall_mem_nil _⟩⟩⟩⟩⟩⟩
  intro A base g outer L mg mb p loose mean s Q E hr B F Xk Tp N hPO hQ
  k_steps
  all_goals (try exact hQ _ _ _ _ rfl (by assumption) (by assumption) (fun q hq => by (repeat (first | exact hq | refine List.Mem.tail _ ?_))))

theorem cn_ok {w : World} {ls : List (Addr × Obj)} {x : Str} {tx : Tok} {cs : List Nat} (ha : x.cps.all (· < 128) = true) (hx : x.cps = cs.toArray) (hz : cs.length ≤ sizeLine) (hl : 1 ≤ (x.length : Int) ∧ (x.length : Int) ≤ 30) (hcs : ∀ j < cs.length, 33 ≤ cs.getD j 0 ∧ cs.getD j 0 ≤ 126)  : GivesK 304 w ls (call (.ref 281) [.str x tx]) (fun v => v = .str x tx) := by
  refine' def_gives_sub [] (binds := [("name", .str x tx)]) ?ho ?hcd ?hb ?hl ?c2 ?c3 ?c4 ?c5 ?hn ?hs ?_
  case ho => k_is
  case hcd => k_is
  case hb => first | exact fun s _ => BindsTo.of_eq rfl | exact fun s Xs => binds_K Xs rfl (by k_is) rfl rfl rfl
  case hl => exact locs rfl
  case c2 => exact rfl
  case c3 => exact rfl
  case c4 => exact rfl
  case c5 => decide
  case hn => decide
  case hs => exact List.forall_mem_nil _
  intro A base g outer L mg mb p loose mean s Q E hr B F Xk Tp N hPO hQ
  k_steps
  unfold Held
  refine rest_skip (n := cs.length) trivial ?fin ?step _ _ (Nat.zero_add _)
  case step =>
    intro j v I oI C oC D m₂ h tk E' K hj hp hn hv F1 N1 ne hK
    obtain ⟨t, rfl⟩ := hp
    have hc := hcs j hj
    generalize cs.getD j 0 = c at hv hc
    k_steps
    exact hK _ _ F1 N1
  case fin =>
    k_steps
    exact hQ _ _ _ _ rfl (by assumption) (by assumption) (fun q hq => by (repeat (first | exact hq | refine List.Mem.tail _ ?_)))

theorem cn_NM {w : World} {ls : List (Addr × Obj)} {tx : Tok}  : RaisesK 304 w ls (call (.ref 281) [.str "" tx]) "NM" := by
  refine' def_raises (binds := [("name", .str "" tx)]) ?ho ?hcd ?hb ?hl ?c2 ?c3 ?c4 ?c5 ?hn ?_
  case ho => k_is
  case hcd => k_is
  case hb => first | exact fun s _ => BindsTo.of_eq rfl | exact fun s Xs => binds_K Xs rfl (by k_is) rfl rfl rfl
  case hl => exact locs rfl
  case c2 => exact rfl
  case c3 => exact rfl
  case c4 => exact rfl
  case c5 => decide
  case hn => decide
  intro A base g outer L mg mb p loose mean s Q E hr B F Xk Tp N hPO hE1 hE2
  k_steps
  all_goals exact hE1 _ _ _ _ _ _ _ (by assumption) (by assumption) (by assumption) (fun q hq => by (repeat (first | exact hq | refine List.Mem.tail _ ?_)))

theorem op_BN {w : World} {W : Addr} {ls : List (Addr × Obj)} {t1 t2 t3 t4 : Tok} {far : Int} (hfar : far < 1 ∨ 15 < far)  : RaisesK 303 w ls (call (.ref 288) [.ref W, .str "O" t1, .int far t2, .str "D" t3, .int 0 t4]) "BN" := by
  refine' def_raises (binds := [("world", .ref W), ("mode", .str "O" t1), ("channel", .int far t2), ("name", .str "D" t3), ("size", .int 0 t4)]) ?ho ?hcd ?hb ?hl ?c2 ?c3 ?c4 ?c5 ?hn ?_
  case ho => k_is
  case hcd => k_is
  case hb => first | exact fun s _ => BindsTo.of_eq rfl | exact fun s Xs => binds_K Xs rfl (by k_is) rfl rfl rfl
  case hl => exact locs rfl
  case c2 => exact rfl
  case c3 => exact rfl
  case c4 => exact rfl
  case c5 => decide
  case hn => decide
  intro A base g outer L mg mb p loose mean s Q E hr B F Xk Tp N hPO hE1 hE2
  k_steps
  all_goals exact hE1 _ _ _ _ _ _ _ (by assumption) (by assumption) (by assumption) (fun q hq => by (repeat (first | exact hq | refine List.Mem.tail _ ?_)))

theorem op_AO {w : World} {W dW C dC dO dF dA PL : Addr} {esW esC : List DictEntry} {nW nC : Nat} {ls : List (Addr × Obj)} {t1 t2 t3 t4 : Tok}  (X : CW w W dW C dC dO dF dA PL esW esC nW nC ls) : RaisesK 303 w ls (call (.ref 288) [.ref W, .str "I" t1, .int 2 t2, .str "B" t3, .int 0 t4]) "AO" := by
  refine' def_raises (binds := [("world", .ref W), ("mode", .str "I" t1), ("channel", .int 2 t2), ("name", .str "B" t3), ("size", .int 0 t4)]) ?ho ?hcd ?hb ?hl ?c2 ?c3 ?c4 ?c5 ?hn ?_
  case ho => k_is
  case hcd => k_is
  case hb => first | exact fun s _ => BindsTo.of_eq rfl | exact fun s Xs => binds_K Xs rfl (by k_is) rfl rfl rfl
  case hl => exact locs rfl
  case c2 => exact rfl
  case c3 => exact rfl
  case c4 => exact rfl
  case c5 => decide
  case hn => decide
  intro A base g outer L mg mb p loose mean s Q E hr B F Xk Tp N hPO hE1 hE2
  have mW := X.mW
  have mdW := X.mdW
  have gO := X.wf.op
  refine X.open3 fun {oO d1 d2 d3 o1 o2 o3 buf t11 t12 t13 t14 t15 t16 t21 t22 t23 t24 t25 t26 t31 t32 t33 t34 t35 t36} mO hO loO m1 h1 lo1 m2 h2 lo2 m3 h3 lo3 => ?_
  k_steps
  all_goals exact hE1 _ _ _ _ _ _ _ (by assumption) (by assumption) (by assumption) (fun q hq => by (repeat (first | exact hq | refine List.Mem.tail _ ?_)))

theorem op_NM {w : World} {W dW C dC dO dF dA PL : Addr} {esW esC : List DictEntry} {nW nC : Nat} {ls : List (Addr × Obj)} {t1 t2 t3 t4 : Tok} {fr : Int} (hfr : 4 ≤ fr ∧ fr ≤ 11) (X : CW w W dW C dC dO dF dA PL esW esC nW nC ls) : RaisesK 303 w ls (call (.ref 288) [.ref W, .str "O" t1, .int fr t2, .str "" t3, .int 0 t4]) "NM" := by
  refine' def_raises (binds := [("world", .ref W), ("mode", .str "O" t1), ("channel", .int fr t2), ("name", .str "" t3), ("size", .int 0 t4)]) ?ho ?hcd ?hb ?hl ?c2 ?c3 ?c4 ?c5 ?hn ?_
  case ho => k_is
  case hcd => k_is
  case hb => first | exact fun s _ => BindsTo.of_eq rfl | exact fun s Xs => binds_K Xs rfl (by k_is) rfl rfl rfl
  case hl => exact locs rfl
  case c2 => exact rfl
  case c3 => exact rfl
  case c4 => exact rfl
  case c5 => decide
  case hn => decide
  intro A base g outer L mg mb p loose mean s Q E hr B F Xk Tp N hPO hE1 hE2
  have mW := X.mW
  have mdW := X.mdW
  have gO := X.wf.op
  refine X.open3 fun {oO d1 d2 d3 o1 o2 o3 buf t11 t12 t13 t14 t15 t16 t21 t22 t23 t24 t25 t26 t31 t32 t33 t34 t35 t36} mO hO loO m1 h1 lo1 m2 h2 lo2 m3 h3 lo3 => ?_
  k_steps
  all_goals (unfold Held)
  refine (isw_no rfl rfl rfl X) hr (by assumption) (by assumption) (by assumption) (by assumption) rfl rfl (by assumption) (fun v h9 tk9 hv F9 N9 => ?_)
  subst hv
  k_sweep
  k_steps
  all_goals (unfold Held)
  exact cn_NM hr (by assumption) (by assumption) (by assumption) (by assumption) rfl rfl (by assumption) (fun g h' tk e dx tc ls' hs => hE2 g h' tk e dx tc ls' hs)

theorem op_FF {w : World} {W dW C dC dO dF dA PL : Addr} {esW esC : List DictEntry} {nW nC : Nat} {ls : List (Addr × Obj)} {t1 t2 t3 t4 : Tok} {fr : Int} (hfr : 4 ≤ fr ∧ fr ≤ 11) (X : CW w W dW C dC dO dF dA PL esW esC nW nC ls) : RaisesK 303 w ls (call (.ref 288) [.ref W, .str "I" t1, .int fr t2, .str "NONE" t3, .int 0 t4]) "FF" := by
  refine' def_raises (binds := [("world", .ref W), ("mode", .str "I" t1), ("channel", .int fr t2), ("name", .str "NONE" t3), ("size", .int 0 t4)]) ?ho ?hcd ?hb ?hl ?c2 ?c3 ?c4 ?c5 ?hn ?_
  case ho => k_is
  case hcd => k_is
  case hb => first | exact fun s _ => BindsTo.of_eq rfl | exact fun s Xs => binds_K Xs rfl (by k_is) rfl rfl rfl
  case hl => exact locs rfl
  case c2 => exact rfl
  case c3 => exact rfl
  case c4 => exact rfl
  case c5 => decide
  case hn => decide
  intro A base g outer L mg mb p loose mean s Q E hr B F Xk Tp N hPO hE1 hE2
  have mW := X.mW
  have mdW := X.mdW
  have gO := X.wf.op
  refine X.open3 fun {oO d1 d2 d3 o1 o2 o3 buf t11 t12 t13 t14 t15 t16 t21 t22 t23 t24 t25 t26 t31 t32 t33 t34 t35 t36} mO hO loO m1 h1 lo1 m2 h2 lo2 m3 h3 lo3 => ?_
  refine X.files fun {oF tfB tfA tfC} mF hF loF => ?_
  have gF := X.wf.fi
  k_steps
  all_goals (unfold Held)
  refine (isw_no rfl rfl rfl X) hr (by assumption) (by assumption) (by assumption) (by assumption) rfl rfl (by assumption) (fun v h9 tk9 hv F9 N9 => ?_)
  subst hv
  k_sweep
  k_steps
  all_goals (unfold Held)
  refine (cn_ok (cs := [78, 79, 78, 69]) (by decide +kernel) (by decide +kernel) (by size_fits) (by decide +kernel) (by decide +kernel)) hr (by assumption) (by assumption) (by assumption) (by assumption) rfl rfl (by assumption) (fun v h9 tk9 hv F9 N9 => ?_)
  subst hv
  k_sweep
  k_steps
  all_goals exact hE1 _ _ _ _ _ _ _ (by assumption) (by assumption) (by assumption) (fun q hq => by (repeat (first | exact hq | refine List.Mem.tail _ ?_)))

theorem op_FC {w : World} {W dW C dC dO dF dA PL : Addr} {esW esC : List DictEntry} {nW nC : Nat} {ls : List (Addr × Obj)} {t1 t2 t3 t4 : Tok} {fr sz : Int} (hfr : 4 ≤ fr ∧ fr ≤ 11) (hsz : sz < 1 ∨ 255 < sz) (X : CW w W dW C dC dO dF dA PL esW esC nW nC ls) : RaisesK 303 w ls (call (.ref 288) [.ref W, .str "R" t1, .int fr t2, .str "D" t3, .int sz t4]) "FC" := by
  refine' def_raises (binds := [("world", .ref W), ("mode", .str "R" t1), ("channel", .int fr t2), ("name", .str "D" t3), ("size", .int sz t4)]) ?ho ?hcd ?hb ?hl ?c2 ?c3 ?c4 ?c5 ?hn ?_
  case ho => k_is
  case hcd => k_is
  case hb => first | exact fun s _ => BindsTo.of_eq rfl | exact fun s Xs => binds_K Xs rfl (by k_is) rfl rfl rfl
  case hl => exact locs rfl
  case c2 => exact rfl
  case c3 => exact rfl
  case c4 => exact rfl
  case c5 => decide
  case hn => decide
  intro A base g outer L mg mb p loose mean s Q E hr B F Xk Tp N hPO hE1 hE2
  have mW := X.mW
  have mdW := X.mdW
  have gO := X.wf.op
  refine X.open3 fun {oO d1 d2 d3 o1 o2 o3 buf t11 t12 t13 t14 t15 t16 t21 t22 t23 t24 t25 t26 t31 t32 t33 t34 t35 t36} mO hO loO m1 h1 lo1 m2 h2 lo2 m3 h3 lo3 => ?_
  k_steps
  all_goals (unfold Held)
  refine (isw_no rfl rfl rfl X) hr (by assumption) (by assumption) (by assumption) (by assumption) rfl rfl (by assumption) (fun v h9 tk9 hv F9 N9 => ?_)
  subst hv
  k_sweep
  k_steps
  all_goals (unfold Held)
  refine (cn_ok (cs := [68]) (by decide +kernel) (by decide +kernel) (by size_fits) (by decide +kernel) (by decide +kernel)) hr (by assumption) (by assumption) (by assumption) (by assumption) rfl rfl (by assumption) (fun v h9 tk9 hv F9 N9 => ?_)
  subst hv
  k_sweep
  k_steps
  all_goals exact hE1 _ _ _ _ _ _ _ (by assumption) (by assumption) (by assumption) (fun q hq => by (repeat (first | exact hq | refine List.Mem.tail _ ?_)))

theorem dim_DD {w : World} {W dW C dC dO dF dA PL : Addr} {esW esC : List DictEntry} {nW nC : Nat} {ls : List (Addr × Obj)} {t1 : Tok} {v : Value} (X : CW w W dW C dC dO dF dA PL esW esC nW nC ls) : RaisesK 303 w ls (call (.ref 269) [.ref W, .str "G" t1, v]) "DD" := by
  refine' def_raises (binds := [("world", .ref W), ("word", .str "G" t1), ("highs", v)]) ?ho ?hcd ?hb ?hl ?c2 ?c3 ?c4 ?c5 ?hn ?_
  case ho => k_is
  case hcd => k_is
  case hb => first | exact fun s _ => BindsTo.of_eq rfl | exact fun s Xs => binds_K Xs rfl (by k_is) rfl rfl rfl
  case hl => exact locs rfl
  case c2 => exact rfl
  case c3 => exact rfl
  case c4 => exact rfl
  case c5 => decide
  case hn => decide
  intro A base g outer L mg mb p loose mean s Q E hr B F Xk Tp N hPO hE1 hE2
  have mW := X.mW
  have mdW := X.mdW
  refine X.arrs fun {oA G dG HL esG nG cH th tgb} mA hA loA mG mdG mHL gHi gBs => ?_
  have gA := X.wf.ar
  k_steps
  all_goals exact hE1 _ _ _ _ _ _ _ (by assumption) (by assumption) (by assumption) (fun q hq => by (repeat (first | exact hq | refine List.Mem.tail _ ?_)))

theorem highs_SN {w : World} {W dW C dC dO dF dA PL : Addr} {esW esC : List DictEntry} {nW nC : Nat} {ls : List (Addr × Obj)} {H : Addr} {n : Nat} (mH : (H, listOf #[] n) ∈ ls) (X : CW w W dW C dC dO dF dA PL esW esC nW nC ls) : RaisesK 304 w ls (call (.ref 262) [.ref W, .ref H]) "SN" := by
  refine' def_raises (binds := [("world", .ref W), ("highs", .ref H)]) ?ho ?hcd ?hb ?hl ?c2 ?c3 ?c4 ?c5 ?hn ?_
  case ho => k_is
  case hcd => k_is
  case hb => first | exact fun s _ => BindsTo.of_eq rfl | exact fun s Xs => binds_K Xs rfl (by k_is) rfl rfl rfl
  case hl => exact locs rfl
  case c2 => exact rfl
  case c3 => exact rfl
  case c4 => exact rfl
  case c5 => decide
  case hn => decide
  intro A base g outer L mg mb p loose mean s Q E hr B F Xk Tp N hPO hE1 hE2
  k_steps
  all_goals exact hE1 _ _ _ _ _ _ _ (by assumption) (by assumption) (by assumption) (fun q hq => by (repeat (first | exact hq | refine List.Mem.tail _ ?_)))

theorem dim_SN {w : World} {W dW C dC dO dF dA PL : Addr} {esW esC : List DictEntry} {nW nC : Nat} {ls : List (Addr × Obj)} {t1 : Tok} {H : Addr} {n : Nat} (mH : (H, listOf #[] n) ∈ ls) (X : CW w W dW C dC dO dF dA PL esW esC nW nC ls) : RaisesK 303 w ls (call (.ref 269) [.ref W, .str "H" t1, .ref H]) "SN" := by
  refine' def_raises (binds := [("world", .ref W), ("word", .str "H" t1), ("highs", .ref H)]) ?ho ?hcd ?hb ?hl ?c2 ?c3 ?c4 ?c5 ?hn ?_
  case ho => k_is
  case hcd => k_is
  case hb => first | exact fun s _ => BindsTo.of_eq rfl | exact fun s Xs => binds_K Xs rfl (by k_is) rfl rfl rfl
  case hl => exact locs rfl
  case c2 => exact rfl
  case c3 => exact rfl
  case c4 => exact rfl
  case c5 => decide
  case hn => decide
  intro A base g outer L mg mb p loose mean s Q E hr B F Xk Tp N hPO hE1 hE2
  have mW := X.mW
  have mdW := X.mdW
  refine X.arrs fun {oA G dG HL esG nG cH th tgb} mA hA loA mG mdG mHL gHi gBs => ?_
  have gA := X.wf.ar
  k_steps
  all_goals (unfold Held)
  exact (highs_SN mH X) hr (by assumption) (by assumption) (by assumption) (by assumption) rfl rfl (by assumption) (fun g h' tk e dx tc ls' hs => hE2 g h' tk e dx tc ls' hs)

theorem text_TM {w : World} {ls : List (Addr × Obj)} {k : Int} {t1 : Tok}  : RaisesK 303 w ls (call (.ref 114) [.int k t1]) "TM" := by
  refine' def_raises (binds := [("value", .int k t1)]) ?ho ?hcd ?hb ?hl ?c2 ?c3 ?c4 ?c5 ?hn ?_
  case ho => k_is
  case hcd => k_is
  case hb => first | exact fun s _ => BindsTo.of_eq rfl | exact fun s Xs => binds_K Xs rfl (by k_is) rfl rfl rfl
  case hl => exact locs rfl
  case c2 => exact rfl
  case c3 => exact rfl
  case c4 => exact rfl
  case c5 => decide
  case hn => decide
  intro A base g outer L mg mb p loose mean s Q E hr B F Xk Tp N hPO hE1 hE2
  k_steps
  all_goals exact hE1 _ _ _ _ _ _ _ (by assumption) (by assumption) (by assumption) (fun q hq => by (repeat (first | exact hq | refine List.Mem.tail _ ?_)))

theorem checked_LS {w : World} {ls : List (Addr × Obj)} {x : Str} {t1 : Tok} (hx : 255 < (x.length : Int) ∧ (x.length : Int) ≤ 300)  : RaisesK 303 w ls (call (.ref 121) [.str x t1]) "LS" := by
  refine' def_raises (binds := [("text", .str x t1)]) ?ho ?hcd ?hb ?hl ?c2 ?c3 ?c4 ?c5 ?hn ?_
  case ho => k_is
  case hcd => k_is
  case hb => first | exact fun s _ => BindsTo.of_eq rfl | exact fun s Xs => binds_K Xs rfl (by k_is) rfl rfl rfl
  case hl => exact locs rfl
  case c2 => exact rfl
  case c3 => exact rfl
  case c4 => exact rfl
  case c5 => decide
  case hn => decide
  intro A base g outer L mg mb p loose mean s Q E hr B F Xk Tp N hPO hE1 hE2
  k_steps
  all_goals exact hE1 _ _ _ _ _ _ _ (by assumption) (by assumption) (by assumption) (fun q hq => by (repeat (first | exact hq | refine List.Mem.tail _ ?_)))

theorem fits_no {w : World} {ls : List (Addr × Obj)} {k : Int} {t1 t2 : Tok} (hk : 32767 < k ∧ k < 33000)  : GivesK 304 w ls (call (.ref 100) [.int k t1, .int 16 t2]) (fun v => v = .bool false) := by
  refine' def_gives (binds := [("number", .int k t1), ("bits", .int 16 t2)]) ?ho ?hcd ?hb ?hl ?c2 ?c3 ?c4 ?c5 ?hn ?_
  case ho => k_is
  case hcd => k_is
  case hb => first | exact fun s _ => BindsTo.of_eq rfl | exact fun s Xs => binds_K Xs rfl (by k_is) rfl rfl rfl
  case hl => exact locs rfl
  case c2 => exact rfl
  case c3 => exact rfl
  case c4 => exact rfl
  case c5 => decide
  case hn => decide
  intro A base g outer L mg mb p loose mean s Q E hr B F Xk Tp N hPO hQ
  k_steps
  all_goals (try exact hQ _ _ _ _ (congrArg Value.bool (decide_eq_false (by (have z9 : (1 * 2 ^ ((16 : Int) - 1).toNat : Int) = 32768 := by decide); omega))) (by assumption) (by assumption) (fun q hq => by (repeat (first | exact hq | refine List.Mem.tail _ ?_))))
  all_goals (exfalso; (have z9 : (1 * 2 ^ ((16 : Int) - 1).toNat : Int) = 32768 := by decide); omega)

theorem whole_OV {w : World} {ls : List (Addr × Obj)} {k : Int} {t1 t2 : Tok} (hk : 32767 < k ∧ k < 33000)  : RaisesK 303 w ls (call (.ref 107) [.int k t1, .int 16 t2]) "OV" := by
  refine' def_raises (binds := [("value", .int k t1), ("bits", .int 16 t2)]) ?ho ?hcd ?hb ?hl ?c2 ?c3 ?c4 ?c5 ?hn ?_
  case ho => k_is
  case hcd => k_is
  case hb => first | exact fun s _ => BindsTo.of_eq rfl | exact fun s Xs => binds_K Xs rfl (by k_is) rfl rfl rfl
  case hl => exact locs rfl
  case c2 => exact rfl
  case c3 => exact rfl
  case c4 => exact rfl
  case c5 => decide
  case hn => decide
  intro A base g outer L mg mb p loose mean s Q E hr B F Xk Tp N hPO hE1 hE2
  k_steps
  all_goals (unfold Held)
  refine (fits_no hk) hr (by assumption) (by assumption) (by assumption) (by assumption) rfl rfl (by assumption) (fun v h9 tk9 hv F9 N9 => ?_)
  subst hv
  k_sweep
  k_steps
  all_goals exact hE1 _ _ _ _ _ _ _ (by assumption) (by assumption) (by assumption) (fun q hq => by (repeat (first | exact hq | refine List.Mem.tail _ ?_)))

theorem told_FC {w : World} {ls : List (Addr × Obj)} {k : Int} {t1 : Tok} (hk : 255 < k)  : RaisesK 303 w ls (call (.ref 213) [.int k t1]) "FC" := by
  refine' def_raises (binds := [("number", .int k t1)]) ?ho ?hcd ?hb ?hl ?c2 ?c3 ?c4 ?c5 ?hn ?_
  case ho => k_is
  case hcd => k_is
  case hb => first | exact fun s _ => BindsTo.of_eq rfl | exact fun s Xs => binds_K Xs rfl (by k_is) rfl rfl rfl
  case hl => exact locs rfl
  case c2 => exact rfl
  case c3 => exact rfl
  case c4 => exact rfl
  case c5 => decide
  case hn => decide
  intro A base g outer L mg mb p loose mean s Q E hr B F Xk Tp N hPO hE1 hE2
  k_steps
  all_goals exact hE1 _ _ _ _ _ _ _ (by assumption) (by assumption) (by assumption) (fun q hq => by (repeat (first | exact hq | refine List.Mem.tail _ ?_)))

theorem resume_RW {w : World} {W dW C dC dO dF dA PL : Addr} {esW esC : List DictEntry} {nW nC : Nat} {ls : List (Addr × Obj)}  (X : CW w W dW C dC dO dF dA PL esW esC nW nC ls) : RaisesK 303 w ls (call (.ref 206) [.ref W, .ref C]) "RW" := by
  refine' def_raises (binds := [("world", .ref W), ("control", .ref C)]) ?ho ?hcd ?hb ?hl ?c2 ?c3 ?c4 ?c5 ?hn ?_
  case ho => k_is
  case hcd => k_is
  case hb => first | exact fun s _ => BindsTo.of_eq rfl | exact fun s Xs => binds_K Xs rfl (by k_is) rfl rfl rfl
  case hl => exact locs rfl
  case c2 => exact rfl
  case c3 => exact rfl
  case c4 => exact rfl
  case c5 => decide
  case hn => decide
  intro A base g outer L mg mb p loose mean s Q E hr B F Xk Tp N hPO hE1 hE2
  have mW := X.mW
  have mdW := X.mdW
  have gIh := X.wf.ih
  k_steps
  all_goals exact hE1 _ _ _ _ _ _ _ (by assumption) (by assumption) (by assumption) (fun q hq => by (repeat (first | exact hq | refine List.Mem.tail _ ?_)))

theorem floor_0 {w : World} {ls : List (Addr × Obj)} {D : Addr} {n nn : Nat} (mD : (D, listOf #[] n) ∈ ls) (hnn : nn + 1 < recursionLimit)  : GivesK nn w ls (call (.ref 149) [.ref D]) (fun v => ∃ t, v = .int 0 t) := by
  refine' def_gives_sub [(D, listOf #[] n)] (binds := [("pile", .ref D)]) ?ho ?hcd ?hb ?hl ?c2 ?c3 ?c4 ?c5 ?hn ?hs ?_
  case ho => k_is
  case hcd => k_is
  case hb => first | exact fun s _ => BindsTo.of_eq rfl | exact fun s Xs => binds_K Xs rfl (by k_is) rfl rfl rfl
  case hl => exact locs rfl
  case c2 => exact rfl
  case c3 => exact rfl
  case c4 => exact rfl
  case c5 => decide
  case hn => exact hnn
  case hs => exact List.forall_mem_cons.mpr ⟨mD, List.forall_mem_nil _⟩
  intro A base g outer L mg mb p loose mean s Q E hr B F Xk Tp N hPO hQ
  k_steps
  all_goals (try exact hQ _ _ _ _ ⟨_, rfl⟩ (by assumption) (by assumption) (fun q hq => by (repeat (first | exact hq | refine List.Mem.tail _ ?_))))

theorem ret_RG {w : World} {W dW C dC dO dF dA PL : Addr} {esW esC : List DictEntry} {nW nC : Nat} {ls : List (Addr × Obj)}  (X : CW w W dW C dC dO dF dA PL esW esC nW nC ls) : RaisesK 303 w ls (call (.ref 185) [.ref C]) "RG" := by
  refine' def_raises (binds := [("control", .ref C)]) ?ho ?hcd ?hb ?hl ?c2 ?c3 ?c4 ?c5 ?hn ?_
  case ho => k_is
  case hcd => k_is
  case hb => first | exact fun s _ => BindsTo.of_eq rfl | exact fun s Xs => binds_K Xs rfl (by k_is) rfl rfl rfl
  case hl => exact locs rfl
  case c2 => exact rfl
  case c3 => exact rfl
  case c4 => exact rfl
  case c5 => decide
  case hn => decide
  intro A base g outer L mg mb p loose mean s Q E hr B F Xk Tp N hPO hE1 hE2
  have mC := X.mC
  have mdC := X.mdC
  have gP := X.cf.pi
  obtain ⟨cP, mP⟩ := X.pl
  k_steps
  all_goals (unfold Held)
  refine (floor_0 mP (by decide)) hr (by assumption) (by assumption) (by assumption) (by assumption) rfl rfl (by assumption) (fun v h9 tk9 hv F9 N9 => ?_)
  obtain ⟨t, rfl⟩ := hv
  k_sweep
  k_steps
  all_goals exact hE1 _ _ _ _ _ _ _ (by assumption) (by assumption) (by assumption) (fun q hq => by (repeat (first | exact hq | refine List.Mem.tail _ ?_)))

theorem found_no {w : World} {ls : List (Addr × Obj)} {D : Addr} {n : Nat} {k x : Str} {t1 t2 : Tok} (mD : (D, listOf #[] n) ∈ ls)  : GivesK 304 w ls (call (.ref 156) [.ref D, .str k t1, .str x t2]) (fun v => ∃ t, v = .int (-1) t) := by
  refine' def_gives_sub [(D, listOf #[] n)] (binds := [("pile", .ref D), ("kind", .str k t1), ("name", .str x t2)]) ?ho ?hcd ?hb ?hl ?c2 ?c3 ?c4 ?c5 ?hn ?hs ?_
  case ho => k_is
  case hcd => k_is
  case hb => first | exact fun s _ => BindsTo.of_eq rfl | exact fun s Xs => binds_K Xs rfl (by k_is) rfl rfl rfl
  case hl => exact locs rfl
  case c2 => exact rfl
  case c3 => exact rfl
  case c4 => exact rfl
  case c5 => decide
  case hn => decide
  case hs => exact List.forall_mem_cons.mpr ⟨mD, List.forall_mem_nil _⟩
  intro A base g outer L mg mb p loose mean s Q E hr B F Xk Tp N hPO hQ
  k_steps
  all_goals (unfold Held)
  refine (floor_0 (List.Mem.head _) (by decide)) hr (by assumption) (by assumption) (by assumption) (by assumption) rfl rfl (by assumption) (fun v h9 tk9 hv F9 N9 => ?_)
  obtain ⟨t, rfl⟩ := hv
  k_sweep
  k_steps
  all_goals exact hQ _ _ _ _ ⟨_, rfl⟩ (by assumption) (by assumption) (fun q hq => by (repeat (first | exact hq | refine List.Mem.tail _ ?_)))

theorem for_NF {w : World} {W dW C dC dO dF dA PL : Addr} {esW esC : List DictEntry} {nW nC : Nat} {ls : List (Addr × Obj)} {t1 : Tok} (X : CW w W dW C dC dO dF dA PL esW esC nW nC ls) : RaisesK 303 w ls (call (.ref 170) [.ref C, .str "" t1]) "NF" := by
  refine' def_raises (binds := [("control", .ref C), ("name", .str "" t1)]) ?ho ?hcd ?hb ?hl ?c2 ?c3 ?c4 ?c5 ?hn ?_
  case ho => k_is
  case hcd => k_is
  case hb => first | exact fun s _ => BindsTo.of_eq rfl | exact fun s Xs => binds_K Xs rfl (by k_is) rfl rfl rfl
  case hl => exact locs rfl
  case c2 => exact rfl
  case c3 => exact rfl
  case c4 => exact rfl
  case c5 => decide
  case hn => decide
  intro A base g outer L mg mb p loose mean s Q E hr B F Xk Tp N hPO hE1 hE2
  have mC := X.mC
  have mdC := X.mdC
  have gP := X.cf.pi
  obtain ⟨cP, mP⟩ := X.pl
  k_steps
  all_goals (unfold Held)
  refine (found_no mP) hr (by assumption) (by assumption) (by assumption) (by assumption) rfl rfl (by assumption) (fun v h9 tk9 hv F9 N9 => ?_)
  obtain ⟨t, rfl⟩ := hv
  k_sweep
  k_steps
  all_goals exact hE1 _ _ _ _ _ _ _ (by assumption) (by assumption) (by assumption) (fun q hq => by (repeat (first | exact hq | refine List.Mem.tail _ ?_)))

theorem wend_WE {w : World} {W dW C dC dO dF dA PL : Addr} {esW esC : List DictEntry} {nW nC : Nat} {ls : List (Addr × Obj)}  (X : CW w W dW C dC dO dF dA PL esW esC nW nC ls) : RaisesK 303 w ls (call (.ref 178) [.ref C]) "WE" := by
  refine' def_raises ?ho ?hcd ?hb ?hl ?c2 ?c3 ?c4 ?c5 ?hn ?_
  case ho => k_is
  case hcd => k_is
  case hb => first | exact fun s _ => BindsTo.of_eq rfl | exact fun s Xs => binds_K Xs rfl (by k_is) rfl rfl rfl
  case hl => exact locs rfl
  case c2 => exact rfl
  case c3 => exact rfl
  case c4 => exact rfl
  case c5 => decide
  case hn => decide
  intro A base g outer L mg mb p loose mean s Q E hr B F Xk Tp N hPO hE1 hE2
  have mC := X.mC
  have mdC := X.mdC
  have gP := X.cf.pi
  obtain ⟨cP, mP⟩ := X.pl
  k_steps
  all_goals (unfold Held)
  refine (found_no mP) hr (by assumption) (by assumption) (by assumption) (by assumption) rfl rfl (by assumption) (fun v h9 tk9 hv F9 N9 => ?_)
  obtain ⟨t, rfl⟩ := hv
  k_sweep
  k_steps
  all_goals exact hE1 _ _ _ _ _ _ _ (by assumption) (by assumption) (by assumption) (fun q hq => by (repeat (first | exact hq | refine List.Mem.tail _ ?_)))

theorem put_OM {w : World} {W dW C dC dO dF dA PL : Addr} {esW esC : List DictEntry} {nW nC : Nat} {ls : List (Addr × Obj)} {tc td te : Tok} {k : Int} (hk : 2 ≤ k ∧ k ≤ 9) (X : CW w W dW C dC dO dF dA PL esW esC nW nC ls) : RaisesK 303 w ls (call (.ref 368) [.ref W, .int 3 tc, .int k td, .int 8 te]) "OM" := by
  refine' def_raises (binds := [("world", .ref W), ("channel", .int 3 tc), ("number", .int k td), ("room", .int 8 te)]) ?ho ?hcd ?hb ?hl ?c2 ?c3 ?c4 ?c5 ?hn ?_
  case ho => k_is
  case hcd => k_is
  case hb => first | exact fun s _ => BindsTo.of_eq rfl | exact fun s Xs => binds_K Xs rfl (by k_is) rfl rfl rfl
  case hl => exact locs rfl
  case c2 => exact rfl
  case c3 => exact rfl
  case c4 => exact rfl
  case c5 => decide
  case hn => decide
  intro A base g outer L mg mb p loose mean s Q E hr B F Xk Tp N hPO hE1 hE2
  have mW := X.mW
  have mdW := X.mdW
  have gO := X.wf.op
  refine X.open3 fun {oO d1 d2 d3 o1 o2 o3 buf t11 t12 t13 t14 t15 t16 t21 t22 t23 t24 t25 t26 t31 t32 t33 t34 t35 t36} mO hO loO m1 h1 lo1 m2 h2 lo2 m3 h3 lo3 => ?_
  refine X.files fun {oF tfB tfA tfC} mF hF loF => ?_
  have gF := X.wf.fi
  k_steps
  all_goals (unfold Held)
  refine chan_OK3 (List.Mem.head _) (.tail _ mW) (.tail _ mdW) gO (.tail _ mO) hO loO (.tail _ m3) h3 hr (by assumption) (by assumption) (by assumption) (by assumption) rfl rfl (by assumption) (fun v h9 tk9 hv F9 N9 => ?_)
  subst hv
  k_sweep
  k_steps
  all_goals (unfold Held)
  refine (told_OK (by omega) (by omega)) hr (by assumption) (by assumption) (by assumption) (by assumption) rfl rfl (by assumption) (fun v h9 tk9 hv F9 N9 => ?_)
  subst hv
  k_sweep
  k_steps
  all_goals exact hE1 _ _ _ _ _ _ _ (by assumption) (by assumption) (by assumption) (fun q hq => by (repeat (first | exact hq | refine List.Mem.tail _ ?_)))

theorem kill_FF {w : World} {W dW C dC dO dF dA PL : Addr} {esW esC : List DictEntry} {nW nC : Nat} {ls : List (Addr × Obj)} {t1 : Tok} (X : CW w W dW C dC dO dF dA PL esW esC nW nC ls) : RaisesK 303 w ls (call (.ref 307) [.ref W, .str "NONE" t1]) "FF" := by
  have mW := X.mW
  have mdW := X.mdW
  refine X.files fun {oF tfB tfA tfC} mF hF loF => ?_
  have gF := X.wf.fi
  refine' def_raisesC_sub [(W, instObj 386 dW), (dW, dictOf esW nW), (dF, oF)] (binds := [("world", .ref W), ("name", .str "NONE" t1)]) ?ho ?hcd ?hb ?hl ?hnd ?c2 ?c3 ?c4 ?hn ?hs ?_
  case ho => k_is
  case hcd => k_is
  case hb => first | exact fun s _ => BindsTo.of_eq rfl | exact fun s Xs => binds_K Xs rfl (by k_is) rfl rfl rfl
  case hl => exact rfl
  case hnd => decide +kernel
  case c2 => exact rfl
  case c3 => exact rfl
  case c4 => exact rfl
  case hn => decide
  case hs => exact List.forall_mem_cons.mpr ⟨mW, List.forall_mem_cons.mpr ⟨mdW, List.forall_mem_cons.mpr ⟨mF, List.forall_mem_nil _⟩⟩⟩
  intro A base g outer L mg mb p loose mean s Q E cells hr B F Xk Tp N Y l1 hPO hE1
  (try k_lt l1)
  k_cells Y
  (try simp only [List.cons_append, List.nil_append] at N)
  (try dsimp only)
  k_steps
  all_goals exact hE1 _ _ _ _ _ _ _ (by assumption) (by assumption) (by assumption) (fun q hq => by (repeat (first | exact hq | refine List.Mem.tail _ ?_)))

theorem place_BS {w : World} {ls : List (Addr × Obj)} {G dG HL SB : Addr} {esG : List DictEntry} {nG cH nS : Nat} {th tgb t1 : Tok} {k : Int} (hk : 3 < k ∧ k ≤ 12) (mG : (G, instObj 237 dG) ∈ ls) (mdG : (dG, dictOf esG nG) ∈ ls) (mHL : (HL, listOf #[.int 3 th] cH) ∈ ls) (gHi : getL "highs" esG = some (some (.ref HL))) (gBs : getL "base" esG = some (some (.int 0 tgb))) (mS : (SB, listOf #[.int k t1] nS) ∈ ls)  : RaisesK 303 w ls (call (.ref 276) [.ref G, .ref SB]) "BS" := by
  refine' def_raises_sub [(G, instObj 237 dG), (dG, dictOf esG nG), (HL, listOf #[.int 3 th] cH), (SB, listOf #[.int k t1] nS)] (binds := [("grid", .ref G), ("subs", .ref SB)]) ?ho ?hcd ?hb ?hl ?c2 ?c3 ?c4 ?c5 ?hn ?hs ?_
  case ho => k_is
  case hcd => k_is
  case hb => first | exact fun s _ => BindsTo.of_eq rfl | exact fun s Xs => binds_K Xs rfl (by k_is) rfl rfl rfl
  case hl => exact locs rfl
  case c2 => exact rfl
  case c3 => exact rfl
  case c4 => exact rfl
  case c5 => decide
  case hn => decide
  case hs => exact List.forall_mem_cons.mpr ⟨mG, List.forall_mem_cons.mpr ⟨mdG, List.forall_mem_cons.mpr ⟨mHL, List.forall_mem_cons.mpr ⟨mS, List.forall_mem_nil _⟩⟩⟩⟩
  intro A base g outer L mg mb p loose mean s Q E hr B F Xk Tp N hPO hE1
  k_steps
  all_goals exact hE1 _ _ _ _ _ _ _ (by assumption) (by assumption) (by assumption) (fun q hq => by (repeat (first | exact hq | refine List.Mem.tail _ ?_)))

theorem isw0 {w : World} {W dW dO : Addr} {esW : List DictEntry} {nW : Nat} {ls : List (Addr × Obj)} {x md : Str} {tx td : Tok} {oO : Obj} (mW : (W, instObj 386 dW) ∈ ls) (mdW : (dW, dictOf esW nW) ∈ ls) (gO : getL "open" esW = some (some (.ref dO))) (mO : (dO, oO) ∈ ls) (hO : oO.IsDictOf (PySem.intKind RW.row.prog w) []) (loO : (dO == sysModules) = false)  : GivesK 304 w ls (call (.ref 295) [.ref W, .str md td, .str x tx]) (fun v => v = .bool false) := by
  refine' def_gives_sub [(W, instObj 386 dW), (dW, dictOf esW nW), (dO, oO)] (binds := [("world", .ref W), ("mode", .str md td), ("name", .str x tx)]) ?ho ?hcd ?hb ?hl ?c2 ?c3 ?c4 ?c5 ?hn ?hs ?_
  case ho => k_is
  case hcd => k_is
  case hb => first | exact fun s _ => BindsTo.of_eq rfl | exact fun s Xs => binds_K Xs rfl (by k_is) rfl rfl rfl
  case hl => exact locs rfl
  case c2 => exact rfl
  case c3 => exact rfl
  case c4 => exact rfl
  case c5 => decide
  case hn => decide
  case hs => exact List.forall_mem_cons.mpr ⟨mW, List.forall_mem_cons.mpr ⟨mdW, List.forall_mem_cons.mpr ⟨mO, List.forall_mem_nil _⟩⟩⟩
  intro A base g outer L mg mb p loose mean s Q E hr B F Xk Tp N hPO hQ
  k_steps
  all_goals (try exact hQ _ _ _ _ rfl (by assumption) (by assumption) (fun q hq => by (repeat (first | exact hq | refine List.Mem.tail _ ?_))))

theorem isw1 {w : World} {W dW dO : Addr} {esW : List DictEntry} {nW : Nat} {ls : List (Addr × Obj)} {d1 : Addr} {o1 : Obj} {t11 t12 t13 t14 t15 t16 : Tok} {x md : Str} {tx td : Tok} {oO : Obj} (mW : (W, instObj 386 dW) ∈ ls) (mdW : (dW, dictOf esW nW) ∈ ls) (gO : getL "open" esW = some (some (.ref dO))) (mO : (dO, oO) ∈ ls) (hO : oO.IsDictOf (PySem.intKind RW.row.prog w) [(1, .ref d1)]) (loO : (dO == sysModules) = false) (m1 : (d1, o1) ∈ ls) (h1 : o1.IsDictOf (PySem.strKind RW.row.prog w) [("mode", .str "O" t11), ("name", .str "A" t12), ("at", .int 0 t13), ("size", .int 0 t14), ("buffer", .str "" t15), ("record", .int 0 t16)]) (x1 : (("A" : Str) == x) = false)  : GivesK 304 w ls (call (.ref 295) [.ref W, .str md td, .str x tx]) (fun v => v = .bool false) := by
  refine' def_gives_sub [(W, instObj 386 dW), (dW, dictOf esW nW), (dO, oO), (d1, o1)] (binds := [("world", .ref W), ("mode", .str md td), ("name", .str x tx)]) ?ho ?hcd ?hb ?hl ?c2 ?c3 ?c4 ?c5 ?hn ?hs ?_
  case ho => k_is
  case hcd => k_is
  case hb => first | exact fun s _ => BindsTo.of_eq rfl | exact fun s Xs => binds_K Xs rfl (by k_is) rfl rfl rfl
  case hl => exact locs rfl
  case c2 => exact rfl
  case c3 => exact rfl
  case c4 => exact rfl
  case c5 => decide
  case hn => decide
  case hs => exact List.forall_mem_cons.mpr ⟨mW, List.forall_mem_cons.mpr ⟨mdW, List.forall_mem_cons.mpr ⟨mO, List.forall_mem_cons.mpr ⟨m1, List.forall_mem_nil _⟩⟩⟩⟩
  intro A base g outer L mg mb p loose mean s Q E hr B F Xk Tp N hPO hQ
  k_steps
  all_goals (try exact hQ _ _ _ _ rfl (by assumption) (by assumption) (fun q hq => by (repeat (first | exact hq | refine List.Mem.tail _ ?_))))

theorem isw2 {w : World} {W dW dO : Addr} {esW : List DictEntry} {nW : Nat} {ls : List (Addr × Obj)} {d2 : Addr} {o2 : Obj} {t21 t22 t23 t24 t25 t26 : Tok} {d1 : Addr} {o1 : Obj} {t11 t12 t13 t14 t15 t16 : Tok} {x md : Str} {tx td : Tok} {oO : Obj} (mW : (W, instObj 386 dW) ∈ ls) (mdW : (dW, dictOf esW nW) ∈ ls) (gO : getL "open" esW = some (some (.ref dO))) (mO : (dO, oO) ∈ ls) (hO : oO.IsDictOf (PySem.intKind RW.row.prog w) [(1, .ref d1), (2, .ref d2)]) (loO : (dO == sysModules) = false) (m1 : (d1, o1) ∈ ls) (h1 : o1.IsDictOf (PySem.strKind RW.row.prog w) [("mode", .str "O" t11), ("name", .str "A" t12), ("at", .int 0 t13), ("size", .int 0 t14), ("buffer", .str "" t15), ("record", .int 0 t16)]) (x1 : (("A" : Str) == x) = false) (m2 : (d2, o2) ∈ ls) (h2 : o2.IsDictOf (PySem.strKind RW.row.prog w) [("mode", .str "I" t21), ("name", .str "B" t22), ("at", .int 0 t23), ("size", .int 0 t24), ("buffer", .str "" t25), ("record", .int 0 t26)]) (x2 : (("B" : Str) == x) = false)  : GivesK 304 w ls (call (.ref 295) [.ref W, .str md td, .str x tx]) (fun v => v = .bool false) := by
  refine' def_gives_sub [(W, instObj 386 dW), (dW, dictOf esW nW), (dO, oO), (d1, o1), (d2, o2)] (binds := [("world", .ref W), ("mode", .str md td), ("name", .str x tx)]) ?ho ?hcd ?hb ?hl ?c2 ?c3 ?c4 ?c5 ?hn ?hs ?_
  case ho => k_is
  case hcd => k_is
  case hb => first | exact fun s _ => BindsTo.of_eq rfl | exact fun s Xs => binds_K Xs rfl (by k_is) rfl rfl rfl
  case hl => exact locs rfl
  case c2 => exact rfl
  case c3 => exact rfl
  case c4 => exact rfl
  case c5 => decide
  case hn => decide
  case hs => exact List.forall_mem_cons.mpr ⟨mW, List.forall_mem_cons.mpr ⟨mdW, List.forall_mem_cons.mpr ⟨mO, List.forall_mem_cons.mpr ⟨m1, List.forall_mem_cons.mpr ⟨m2, List.forall_mem_nil _⟩⟩⟩⟩⟩
  intro A base g outer L mg mb p loose mean s Q E hr B F Xk Tp N hPO hQ
  k_steps
  all_goals (try exact hQ _ _ _ _ rfl (by assumption) (by assumption) (fun q hq => by (repeat (first | exact hq | refine List.Mem.tail _ ?_))))

theorem count_4 {w : World} {ls : List (Addr × Obj)} {H : Addr} {t3 tb : Tok} {nH nn : Nat} (mH : (H, listOf #[.int 3 t3] nH) ∈ ls) (hnn : nn + 1 < recursionLimit)  : GivesK nn w ls (call (.ref 248) [.ref H, .int 0 tb]) (fun v => ∃ t, v = .int 4 t) := by
  refine' def_gives_sub [(H, listOf #[.int 3 t3] nH)] (binds := [("highs", .ref H), ("base", .int 0 tb)]) ?ho ?hcd ?hb ?hl ?c2 ?c3 ?c4 ?c5 ?hn ?hs ?_
  case ho => k_is
  case hcd => k_is
  case hb => first | exact fun s _ => BindsTo.of_eq rfl | exact fun s Xs => binds_K Xs rfl (by k_is) rfl rfl rfl
  case hl => exact locs rfl
  case c2 => exact rfl
  case c3 => exact rfl
  case c4 => exact rfl
  case c5 => decide
  case hn => exact hnn
  case hs => exact List.forall_mem_cons.mpr ⟨mH, List.forall_mem_nil _⟩
  intro A base g outer L mg mb p loose mean s Q E hr B F Xk Tp N hPO hQ
  k_steps
  all_goals (try exact hQ _ _ _ _ ⟨_, rfl⟩ (by assumption) (by assumption) (fun q hq => by (repeat (first | exact hq | refine List.Mem.tail _ ?_))))

theorem highs_ok {w : World} {W dW : Addr} {esW : List DictEntry} {nW : Nat} {ls : List (Addr × Obj)} {H : Addr} {t3 tb tr : Tok} {nH : Nat} (mH : (H, listOf #[.int 3 t3] nH) ∈ ls) (mW : (W, instObj 386 dW) ∈ ls) (mdW : (dW, dictOf esW nW) ∈ ls) (gB : getL "base" esW = some (some (.int 0 tb))) (gR : getL "room" esW = some (some (.int 2000 tr)))  : GivesK 304 w ls (call (.ref 262) [.ref W, .ref H]) (fun v => v = .none) := by
  refine' def_givesE_sub [(W, instObj 386 dW), (dW, dictOf esW nW), (H, listOf #[.int 3 t3] nH)] (binds := [("world", .ref W), ("highs", .ref H)]) ?ho ?hcd ?hb ?hl ?c2 ?c3 ?c4 ?c5 ?hn ?hs ?_
  case ho => k_is
  case hcd => k_is
  case hb => first | exact fun s _ => BindsTo.of_eq rfl | exact fun s Xs => binds_K Xs rfl (by k_is) rfl rfl rfl
  case hl => exact locs rfl
  case c2 => exact rfl
  case c3 => exact rfl
  case c4 => exact rfl
  case c5 => decide
  case hn => decide
  case hs => exact List.forall_mem_cons.mpr ⟨mW, List.forall_mem_cons.mpr ⟨mdW, List.forall_mem_cons.mpr ⟨mH, List.forall_mem_nil _⟩⟩⟩
  intro A base g outer L mg mb p loose mean s Q E hr B F Xk Tp N hPO hQ
  k_steps
  all_goals (unfold Held)
  refine (count_4 (List.Mem.tail _ (.tail _ (.head _))) (by decide)) hr (by assumption) (by assumption) (by assumption) (by assumption) rfl rfl (by assumption) (fun v h9 tk9 hv F9 N9 => ?_)
  obtain ⟨t9, rfl⟩ := hv
  k_sweep
  k_steps
  all_goals exact hQ _ _ _ _ rfl (by assumption) (by assumption) (fun q hq => by (repeat (first | exact hq | refine List.Mem.tail _ ?_)))

theorem kind_of {w : World} {ls : List (Addr × Obj)} {dK : Addr} {oK : Obj} {tg : Tok} (mK : (dK, oK) ∈ ls) (hK : oK.IsDictOf (PySem.strKind RW.row.prog w) []) (loK : (dK == sysModules) = false)  : GivesK 305 w ls (call (.ref 65) [.str "G" tg, .ref dK]) (fun v => ∃ t, v = .str "decimal" t) := by
  refine' def_gives (binds := [("name", .str "G" tg), ("kinds", .ref dK)]) ?ho ?hcd ?hb ?hl ?c2 ?c3 ?c4 ?c5 ?hn ?_
  case ho => k_is
  case hcd => k_is
  case hb => first | exact fun s _ => BindsTo.of_eq rfl | exact fun s Xs => binds_K Xs rfl (by k_is) rfl rfl rfl
  case hl => exact locs rfl
  case c2 => exact rfl
  case c3 => exact rfl
  case c4 => exact rfl
  case c5 => decide
  case hn => decide
  intro A base g outer L mg mb p loose mean s Q E hr B F Xk Tp N hPO hQ
  k_steps
  all_goals (try exact hQ _ _ _ _ ⟨_, rfl⟩ (by assumption) (by assumption) (fun q hq => by (repeat (first | exact hq | refine List.Mem.tail _ ?_))))

theorem kind_in {w : World} {W dW : Addr} {esW : List DictEntry} {nW : Nat} {ls : List (Addr × Obj)} {dK : Addr} {oK : Obj} {tg : Tok} (mW : (W, instObj 386 dW) ∈ ls) (mdW : (dW, dictOf esW nW) ∈ ls) (gK : getL "kinds" esW = some (some (.ref dK))) (mK : (dK, oK) ∈ ls) (hK : oK.IsDictOf (PySem.strKind RW.row.prog w) []) (loK : (dK == sysModules) = false)  : GivesK 304 w ls (call (.ref 255) [.ref W, .str "G" tg]) (fun v => ∃ t, v = .str "decimal" t) := by
  refine' def_gives (binds := [("world", .ref W), ("word", .str "G" tg)]) ?ho ?hcd ?hb ?hl ?c2 ?c3 ?c4 ?c5 ?hn ?_
  case ho => k_is
  case hcd => k_is
  case hb => first | exact fun s _ => BindsTo.of_eq rfl | exact fun s Xs => binds_K Xs rfl (by k_is) rfl rfl rfl
  case hl => exact locs rfl
  case c2 => exact rfl
  case c3 => exact rfl
  case c4 => exact rfl
  case c5 => decide
  case hn => decide
  intro A base g outer L mg mb p loose mean s Q E hr B F Xk Tp N hPO hQ
  k_steps
  all_goals (unfold Held)
  refine (kind_of mK hK loK) hr (by assumption) (by assumption) (by assumption) (by assumption) rfl rfl (by assumption) (fun v h9 tk9 hv F9 N9 => ?_)
  obtain ⟨t9, rfl⟩ := hv
  k_sweep
  k_steps
  exact hQ _ _ _ _ ⟨_, rfl⟩ (by assumption) (by assumption) (fun q hq => by (repeat (first | exact hq | refine List.Mem.tail _ ?_)))

theorem first_v {w : World} {ls : List (Addr × Obj)} {t1 : Tok}  : GivesK 305 w ls (call (.ref 72) [.str "decimal" t1]) (fun v => ∃ T, v = .ref T) := by
  refine' def_gives (binds := [("kind", .str "decimal" t1)]) ?ho ?hcd ?hb ?hl ?c2 ?c3 ?c4 ?c5 ?hn ?_
  case ho => k_is
  case hcd => k_is
  case hb => first | exact fun s _ => BindsTo.of_eq rfl | exact fun s Xs => binds_K Xs rfl (by k_is) rfl rfl rfl
  case hl => exact locs rfl
  case c2 => exact rfl
  case c3 => exact rfl
  case c4 => exact rfl
  case c5 => decide
  case hn => decide
  intro A base g outer L mg mb p loose mean s Q E hr B F Xk Tp N hPO hQ
  k_steps
  all_goals (try exact hQ _ _ _ _ ⟨_, rfl⟩ (by assumption) (by assumption) (fun q hq => by (repeat (first | exact hq | refine List.Mem.tail _ ?_))))

theorem item_61_0 {w : World} {W C : Addr} {own : List (Addr × Obj)} {f c' : Addr} {qual : Str} {params : Arguments} {body : Expr} {scope : Scope} {pos : Pos} {pm ctv : Value} {vsc : Array Value} {oc : Obj} {t1 : Tok} {cw : Addr} {ow : Obj}
  (hlam : (lamsOf 61)[0]? = some (.Lambda params body scope pos)) (mf : (f, kla_obj "<lambda>" qual params body scope [("world", cw)] pm c' ctv) ∈ own) (mc : (c', oc) ∈ own) (hoc : oc.data = .fields vsc) (hoq : vsc[1]? = some (.str qual t1))
  (mworld : (cw, ow) ∈ own) (hdworld : ow.data = .cell (some (.ref W))) : WK w W C own f "BM" := by
  rw [show (lamsOf 61)[0]? = some (.Lambda _ _ _ _) from rfl] at hlam
  cases hlam
  refine' item_of mf mc hoc hoq ?hb ?c2 ?c3 ?c4 ?c5 ?_
  case hb => exact rfl
  case c2 => exact rfl
  case c3 => exact rfl
  case c4 => exact rfl
  case c5 => decide
  intro dW dC dO dF dA PL esW esC nW nC ls X hs A base g outer L mg mb p loose mean s Q E hr B F Xk Tp N hPO hE2
  replace mworld := hs _ mworld
  k_steps
  all_goals (unfold Held)
  exact (read_R (rest_R fun {_} hs {_ _} mT => chan_BM1 mT (X.mono hs))) hr (by assumption) (by assumption) (by assumption) (by assumption) rfl rfl (by assumption) (fun g h' tk e dx tc ls' hs => hE2 g h' tk e dx tc ls' hs)

theorem item_61_1 {w : World} {W C : Addr} {own : List (Addr × Obj)} {f c' : Addr} {qual : Str} {params : Arguments} {body : Expr} {scope : Scope} {pos : Pos} {pm ctv : Value} {vsc : Array Value} {oc : Obj} {t1 : Tok} {cw : Addr} {ow : Obj}
  (hlam : (lamsOf 61)[1]? = some (.Lambda params body scope pos)) (mf : (f, kla_obj "<lambda>" qual params body scope [("world", cw)] pm c' ctv) ∈ own) (mc : (c', oc) ∈ own) (hoc : oc.data = .fields vsc) (hoq : vsc[1]? = some (.str qual t1))
  (mworld : (cw, ow) ∈ own) (hdworld : ow.data = .cell (some (.ref W))) : WK w W C own f "BM" := by
  rw [show (lamsOf 61)[1]? = some (.Lambda _ _ _ _) from rfl] at hlam
  cases hlam
  refine' item_of mf mc hoc hoq ?hb ?c2 ?c3 ?c4 ?c5 ?_
  case hb => exact rfl
  case c2 => exact rfl
  case c3 => exact rfl
  case c4 => exact rfl
  case c5 => decide
  intro dW dC dO dF dA PL esW esC nW nC ls X hs A base g outer L mg mb p loose mean s Q E hr B F Xk Tp N hPO hE2
  replace mworld := hs _ mworld
  k_steps
  all_goals (unfold Held)
  exact (row_R X) hr (by assumption) (by assumption) (by assumption) (by assumption) rfl rfl (by assumption) (fun g h' tk e dx tc ls' hs => hE2 g h' tk e dx tc ls' hs)

theorem item_61_2 {w : World} {W C : Addr} {own : List (Addr × Obj)} {f c' : Addr} {qual : Str} {params : Arguments} {body : Expr} {scope : Scope} {pos : Pos} {pm ctv : Value} {vsc : Array Value} {oc : Obj} {t1 : Tok} {cw : Addr} {ow : Obj}
  (hlam : (lamsOf 61)[2]? = some (.Lambda params body scope pos)) (mf : (f, kla_obj "<lambda>" qual params body scope [("world", cw)] pm c' ctv) ∈ own) (mc : (c', oc) ∈ own) (hoc : oc.data = .fields vsc) (hoq : vsc[1]? = some (.str qual t1))
  (mworld : (cw, ow) ∈ own) (hdworld : ow.data = .cell (some (.ref W))) : WK w W C own f "BM" := by
  rw [show (lamsOf 61)[2]? = some (.Lambda _ _ _ _) from rfl] at hlam
  cases hlam
  refine' item_of mf mc hoc hoq ?hb ?c2 ?c3 ?c4 ?c5 ?_
  case hb => exact rfl
  case c2 => exact rfl
  case c3 => exact rfl
  case c4 => exact rfl
  case c5 => decide
  intro dW dC dO dF dA PL esW esC nW nC ls X hs A base g outer L mg mb p loose mean s Q E hr B F Xk Tp N hPO hE2
  replace mworld := hs _ mworld
  k_steps
  all_goals (unfold Held)
  exact (get_BM X) hr (by assumption) (by assumption) (by assumption) (by assumption) rfl rfl (by assumption) (fun g h' tk e dx tc ls' hs => hE2 g h' tk e dx tc ls' hs)

theorem item_61_3 {w : World} {W C : Addr} {own : List (Addr × Obj)} {f c' : Addr} {qual : Str} {params : Arguments} {body : Expr} {scope : Scope} {pos : Pos} {pm ctv : Value} {vsc : Array Value} {oc : Obj} {t1 : Tok} {cf : Addr} {of : Obj} {fr : Int} {tfr : Tok} {cw : Addr} {ow : Obj}
  (hlam : (lamsOf 61)[3]? = some (.Lambda params body scope pos)) (mf : (f, kla_obj "<lambda>" qual params body scope [("world", cw), ("free", cf)] pm c' ctv) ∈ own) (mc : (c', oc) ∈ own) (hoc : oc.data = .fields vsc) (hoq : vsc[1]? = some (.str qual t1))
  (mfree : (cf, of) ∈ own) (hdfree : of.data = .cell (some (.int fr tfr))) (hfr : 4 ≤ fr ∧ fr ≤ 11) (mworld : (cw, ow) ∈ own) (hdworld : ow.data = .cell (some (.ref W))) : WK w W C own f "BN" := by
  rw [show (lamsOf 61)[3]? = some (.Lambda _ _ _ _) from rfl] at hlam
  cases hlam
  refine' item_of mf mc hoc hoq ?hb ?c2 ?c3 ?c4 ?c5 ?_
  case hb => exact rfl
  case c2 => exact rfl
  case c3 => exact rfl
  case c4 => exact rfl
  case c5 => decide
  intro dW dC dO dF dA PL esW esC nW nC ls X hs A base g outer L mg mb p loose mean s Q E hr B F Xk Tp N hPO hE2
  replace mfree := hs _ mfree
  replace mworld := hs _ mworld
  k_steps
  all_goals (unfold Held)
  exact (read_R (rest_R fun {_} hs {_ _} mT => chan_BN hfr mT (X.mono hs))) hr (by assumption) (by assumption) (by assumption) (by assumption) rfl rfl (by assumption) (fun g h' tk e dx tc ls' hs => hE2 g h' tk e dx tc ls' hs)

theorem item_61_4 {w : World} {W C : Addr} {own : List (Addr × Obj)} {f c' : Addr} {qual : Str} {params : Arguments} {body : Expr} {scope : Scope} {pos : Pos} {pm ctv : Value} {vsc : Array Value} {oc : Obj} {t1 : Tok} {cr : Addr} {ofar : Obj} {far : Int} {tfar : Tok} {cw : Addr} {ow : Obj}
  (hlam : (lamsOf 61)[4]? = some (.Lambda params body scope pos)) (mf : (f, kla_obj "<lambda>" qual params body scope [("world", cw), ("far", cr)] pm c' ctv) ∈ own) (mc : (c', oc) ∈ own) (hoc : oc.data = .fields vsc) (hoq : vsc[1]? = some (.str qual t1))
  (mfar : (cr, ofar) ∈ own) (hdfar : ofar.data = .cell (some (.int far tfar))) (hfar : far = 0 ∨ far = 16 ∨ far = 40) (mworld : (cw, ow) ∈ own) (hdworld : ow.data = .cell (some (.ref W))) : WK w W C own f "BN" := by
  rw [show (lamsOf 61)[4]? = some (.Lambda _ _ _ _) from rfl] at hlam
  cases hlam
  refine' item_of mf mc hoc hoq ?hb ?c2 ?c3 ?c4 ?c5 ?_
  case hb => exact rfl
  case c2 => exact rfl
  case c3 => exact rfl
  case c4 => exact rfl
  case c5 => decide
  intro dW dC dO dF dA PL esW esC nW nC ls X hs A base g outer L mg mb p loose mean s Q E hr B F Xk Tp N hPO hE2
  replace mfar := hs _ mfar
  replace mworld := hs _ mworld
  k_steps
  all_goals (unfold Held)
  exact (op_BN (by omega)) hr (by assumption) (by assumption) (by assumption) (by assumption) rfl rfl (by assumption) (fun g h' tk e dx tc ls' hs => hE2 g h' tk e dx tc ls' hs)

theorem item_61_5 {w : World} {W C : Addr} {own : List (Addr × Obj)} {f c' : Addr} {qual : Str} {params : Arguments} {body : Expr} {scope : Scope} {pos : Pos} {pm ctv : Value} {vsc : Array Value} {oc : Obj} {t1 : Tok} {cw : Addr} {ow : Obj}
  (hlam : (lamsOf 61)[5]? = some (.Lambda params body scope pos)) (mf : (f, kla_obj "<lambda>" qual params body scope [("world", cw)] pm c' ctv) ∈ own) (mc : (c', oc) ∈ own) (hoc : oc.data = .fields vsc) (hoq : vsc[1]? = some (.str qual t1))
  (mworld : (cw, ow) ∈ own) (hdworld : ow.data = .cell (some (.ref W))) : WK w W C own f "BN" := by
  rw [show (lamsOf 61)[5]? = some (.Lambda _ _ _ _) from rfl] at hlam
  cases hlam
  refine' item_of mf mc hoc hoq ?hb ?c2 ?c3 ?c4 ?c5 ?_
  case hb => exact rfl
  case c2 => exact rfl
  case c3 => exact rfl
  case c4 => exact rfl
  case c5 => decide
  intro dW dC dO dF dA PL esW esC nW nC ls X hs A base g outer L mg mb p loose mean s Q E hr B F Xk Tp N hPO hE2
  replace mworld := hs _ mworld
  k_steps
  all_goals (unfold Held)
  exact (get_BN X) hr (by assumption) (by assumption) (by assumption) (by assumption) rfl rfl (by assumption) (fun g h' tk e dx tc ls' hs => hE2 g h' tk e dx tc ls' hs)

theorem item_61_6 {w : World} {W C : Addr} {own : List (Addr × Obj)} {f c' : Addr} {qual : Str} {params : Arguments} {body : Expr} {scope : Scope} {pos : Pos} {pm ctv : Value} {vsc : Array Value} {oc : Obj} {t1 : Tok} {cw : Addr} {ow : Obj}
  (hlam : (lamsOf 61)[6]? = some (.Lambda params body scope pos)) (mf : (f, kla_obj "<lambda>" qual params body scope [("world", cw)] pm c' ctv) ∈ own) (mc : (c', oc) ∈ own) (hoc : oc.data = .fields vsc) (hoq : vsc[1]? = some (.str qual t1))
  (mworld : (cw, ow) ∈ own) (hdworld : ow.data = .cell (some (.ref W))) : WK w W C own f "AO" := by
  rw [show (lamsOf 61)[6]? = some (.Lambda _ _ _ _) from rfl] at hlam
  cases hlam
  refine' item_of mf mc hoc hoq ?hb ?c2 ?c3 ?c4 ?c5 ?_
  case hb => exact rfl
  case c2 => exact rfl
  case c3 => exact rfl
  case c4 => exact rfl
  case c5 => decide
  intro dW dC dO dF dA PL esW esC nW nC ls X hs A base g outer L mg mb p loose mean s Q E hr B F Xk Tp N hPO hE2
  replace mworld := hs _ mworld
  k_steps
  all_goals (unfold Held)
  exact (op_AO X) hr (by assumption) (by assumption) (by assumption) (by assumption) rfl rfl (by assumption) (fun g h' tk e dx tc ls' hs => hE2 g h' tk e dx tc ls' hs)

theorem item_61_10 {w : World} {W C : Addr} {own : List (Addr × Obj)} {f c' : Addr} {qual : Str} {params : Arguments} {body : Expr} {scope : Scope} {pos : Pos} {pm ctv : Value} {vsc : Array Value} {oc : Obj} {t1 : Tok} {cw : Addr} {ow : Obj}
  (hlam : (lamsOf 61)[10]? = some (.Lambda params body scope pos)) (mf : (f, kla_obj "<lambda>" qual params body scope [("world", cw)] pm c' ctv) ∈ own) (mc : (c', oc) ∈ own) (hoc : oc.data = .fields vsc) (hoq : vsc[1]? = some (.str qual t1))
  (mworld : (cw, ow) ∈ own) (hdworld : ow.data = .cell (some (.ref W))) : WK w W C own f "FF" := by
  rw [show (lamsOf 61)[10]? = some (.Lambda _ _ _ _) from rfl] at hlam
  cases hlam
  refine' item_of mf mc hoc hoq ?hb ?c2 ?c3 ?c4 ?c5 ?_
  case hb => exact rfl
  case c2 => exact rfl
  case c3 => exact rfl
  case c4 => exact rfl
  case c5 => decide
  intro dW dC dO dF dA PL esW esC nW nC ls X hs A base g outer L mg mb p loose mean s Q E hr B F Xk Tp N hPO hE2
  replace mworld := hs _ mworld
  k_steps
  all_goals (unfold Held)
  exact (kill_FF X) hr (by assumption) (by assumption) (by assumption) (by assumption) rfl rfl (by assumption) (fun g h' tk e dx tc ls' hs => hE2 g h' tk e dx tc ls' hs)

theorem item_61_8 {w : World} {W C : Addr} {own : List (Addr × Obj)} {f c' : Addr} {qual : Str} {params : Arguments} {body : Expr} {scope : Scope} {pos : Pos} {pm ctv : Value} {vsc : Array Value} {oc : Obj} {t1 : Tok} {cf : Addr} {of : Obj} {fr : Int} {tfr : Tok} {cw : Addr} {ow : Obj}
  (hlam : (lamsOf 61)[8]? = some (.Lambda params body scope pos)) (mf : (f, kla_obj "<lambda>" qual params body scope [("world", cw), ("free", cf)] pm c' ctv) ∈ own) (mc : (c', oc) ∈ own) (hoc : oc.data = .fields vsc) (hoq : vsc[1]? = some (.str qual t1))
  (mfree : (cf, of) ∈ own) (hdfree : of.data = .cell (some (.int fr tfr))) (hfr : 4 ≤ fr ∧ fr ≤ 11) (mworld : (cw, ow) ∈ own) (hdworld : ow.data = .cell (some (.ref W))) : WK w W C own f "NM" := by
  rw [show (lamsOf 61)[8]? = some (.Lambda _ _ _ _) from rfl] at hlam
  cases hlam
  refine' item_of mf mc hoc hoq ?hb ?c2 ?c3 ?c4 ?c5 ?_
  case hb => exact rfl
  case c2 => exact rfl
  case c3 => exact rfl
  case c4 => exact rfl
  case c5 => decide
  intro dW dC dO dF dA PL esW esC nW nC ls X hs A base g outer L mg mb p loose mean s Q E hr B F Xk Tp N hPO hE2
  replace mfree := hs _ mfree
  replace mworld := hs _ mworld
  k_steps
  all_goals (unfold Held)
  exact (op_NM hfr X) hr (by assumption) (by assumption) (by assumption) (by assumption) rfl rfl (by assumption) (fun g h' tk e dx tc ls' hs => hE2 g h' tk e dx tc ls' hs)

theorem item_61_9 {w : World} {W C : Addr} {own : List (Addr × Obj)} {f c' : Addr} {qual : Str} {params : Arguments} {body : Expr} {scope : Scope} {pos : Pos} {pm ctv : Value} {vsc : Array Value} {oc : Obj} {t1 : Tok} {cf : Addr} {of : Obj} {fr : Int} {tfr : Tok} {cw : Addr} {ow : Obj}
  (hlam : (lamsOf 61)[9]? = some (.Lambda params body scope pos)) (mf : (f, kla_obj "<lambda>" qual params body scope [("world", cw), ("free", cf)] pm c' ctv) ∈ own) (mc : (c', oc) ∈ own) (hoc : oc.data = .fields vsc) (hoq : vsc[1]? = some (.str qual t1))
  (mfree : (cf, of) ∈ own) (hdfree : of.data = .cell (some (.int fr tfr))) (hfr : 4 ≤ fr ∧ fr ≤ 11) (mworld : (cw, ow) ∈ own) (hdworld : ow.data = .cell (some (.ref W))) : WK w W C own f "FF" := by
  rw [show (lamsOf 61)[9]? = some (.Lambda _ _ _ _) from rfl] at hlam
  cases hlam
  refine' item_of mf mc hoc hoq ?hb ?c2 ?c3 ?c4 ?c5 ?_
  case hb => exact rfl
  case c2 => exact rfl
  case c3 => exact rfl
  case c4 => exact rfl
  case c5 => decide
  intro dW dC dO dF dA PL esW esC nW nC ls X hs A base g outer L mg mb p loose mean s Q E hr B F Xk Tp N hPO hE2
  replace mfree := hs _ mfree
  replace mworld := hs _ mworld
  k_steps
  all_goals (unfold Held)
  exact (op_FF hfr X) hr (by assumption) (by assumption) (by assumption) (by assumption) rfl rfl (by assumption) (fun g h' tk e dx tc ls' hs => hE2 g h' tk e dx tc ls' hs)

theorem item_61_11 {w : World} {W C : Addr} {own : List (Addr × Obj)} {f c' : Addr} {qual : Str} {params : Arguments} {body : Expr} {scope : Scope} {pos : Pos} {pm ctv : Value} {vsc : Array Value} {oc : Obj} {t1 : Tok} {cf : Addr} {of : Obj} {fr : Int} {tfr : Tok} {cz : Addr} {oz : Obj} {sz : Int} {tsz : Tok} {cw : Addr} {ow : Obj}
  (hlam : (lamsOf 61)[11]? = some (.Lambda params body scope pos)) (mf : (f, kla_obj "<lambda>" qual params body scope [("world", cw), ("size", cz), ("free", cf)] pm c' ctv) ∈ own) (mc : (c', oc) ∈ own) (hoc : oc.data = .fields vsc) (hoq : vsc[1]? = some (.str qual t1))
  (mfree : (cf, of) ∈ own) (hdfree : of.data = .cell (some (.int fr tfr))) (hfr : 4 ≤ fr ∧ fr ≤ 11) (msize : (cz, oz) ∈ own) (hdsize : oz.data = .cell (some (.int sz tsz))) (hsz : 1 ≤ sz ∧ sz ≤ 8) (mworld : (cw, ow) ∈ own) (hdworld : ow.data = .cell (some (.ref W))) : WK w W C own f "FC" := by
  rw [show (lamsOf 61)[11]? = some (.Lambda _ _ _ _) from rfl] at hlam
  cases hlam
  refine' item_of mf mc hoc hoq ?hb ?c2 ?c3 ?c4 ?c5 ?_
  case hb => exact rfl
  case c2 => exact rfl
  case c3 => exact rfl
  case c4 => exact rfl
  case c5 => decide
  intro dW dC dO dF dA PL esW esC nW nC ls X hs A base g outer L mg mb p loose mean s Q E hr B F Xk Tp N hPO hE2
  replace mfree := hs _ mfree
  replace msize := hs _ msize
  replace mworld := hs _ mworld
  k_steps
  all_goals (unfold Held)
  exact (op_FC hfr (by omega) X) hr (by assumption) (by assumption) (by assumption) (by assumption) rfl rfl (by assumption) (fun g h' tk e dx tc ls' hs => hE2 g h' tk e dx tc ls' hs)

theorem item_61_12 {w : World} {W C : Addr} {own : List (Addr × Obj)} {f c' : Addr} {qual : Str} {params : Arguments} {body : Expr} {scope : Scope} {pos : Pos} {pm ctv : Value} {vsc : Array Value} {oc : Obj} {t1 : Tok} {cw : Addr} {ow : Obj}
  (hlam : (lamsOf 61)[12]? = some (.Lambda params body scope pos)) (mf : (f, kla_obj "<lambda>" qual params body scope [("world", cw)] pm c' ctv) ∈ own) (mc : (c', oc) ∈ own) (hoc : oc.data = .fields vsc) (hoq : vsc[1]? = some (.str qual t1))
  (mworld : (cw, ow) ∈ own) (hdworld : ow.data = .cell (some (.ref W))) : WK w W C own f "EF" := by
  rw [show (lamsOf 61)[12]? = some (.Lambda _ _ _ _) from rfl] at hlam
  cases hlam
  refine' item_of mf mc hoc hoq ?hb ?c2 ?c3 ?c4 ?c5 ?_
  case hb => exact rfl
  case c2 => exact rfl
  case c3 => exact rfl
  case c4 => exact rfl
  case c5 => decide
  intro dW dC dO dF dA PL esW esC nW nC ls X hs A base g outer L mg mb p loose mean s Q E hr B F Xk Tp N hPO hE2
  replace mworld := hs _ mworld
  k_steps
  all_goals (unfold Held)
  exact (read_EF X) hr (by assumption) (by assumption) (by assumption) (by assumption) rfl rfl (by assumption) (fun g h' tk e dx tc ls' hs => hE2 g h' tk e dx tc ls' hs)

theorem item_61_13 {w : World} {W C : Addr} {own : List (Addr × Obj)} {f c' : Addr} {qual : Str} {params : Arguments} {body : Expr} {scope : Scope} {pos : Pos} {pm ctv : Value} {vsc : Array Value} {oc : Obj} {t1 : Tok} {cz : Addr} {oz : Obj} {sz : Int} {tsz : Tok} {cw : Addr} {ow : Obj}
  (hlam : (lamsOf 61)[13]? = some (.Lambda params body scope pos)) (mf : (f, kla_obj "<lambda>" qual params body scope [("world", cw), ("size", cz)] pm c' ctv) ∈ own) (mc : (c', oc) ∈ own) (hoc : oc.data = .fields vsc) (hoq : vsc[1]? = some (.str qual t1))
  (msize : (cz, oz) ∈ own) (hdsize : oz.data = .cell (some (.int sz tsz))) (hsz : 1 ≤ sz ∧ sz ≤ 8) (mworld : (cw, ow) ∈ own) (hdworld : ow.data = .cell (some (.ref W))) : WK w W C own f "EF" := by
  rw [show (lamsOf 61)[13]? = some (.Lambda _ _ _ _) from rfl] at hlam
  cases hlam
  refine' item_of mf mc hoc hoq ?hb ?c2 ?c3 ?c4 ?c5 ?_
  case hb => exact rfl
  case c2 => exact rfl
  case c3 => exact rfl
  case c4 => exact rfl
  case c5 => decide
  intro dW dC dO dF dA PL esW esC nW nC ls X hs A base g outer L mg mb p loose mean s Q E hr B F Xk Tp N hPO hE2
  replace msize := hs _ msize
  replace mworld := hs _ mworld
  k_steps
  all_goals (unfold Held)
  exact (get_EF hsz X) hr (by assumption) (by assumption) (by assumption) (by assumption) rfl rfl (by assumption) (fun g h' tk e dx tc ls' hs => hE2 g h' tk e dx tc ls' hs)

theorem item_61_15 {w : World} {W C : Addr} {own : List (Addr × Obj)} {f c' : Addr} {qual : Str} {params : Arguments} {body : Expr} {scope : Scope} {pos : Pos} {pm ctv : Value} {vsc : Array Value} {oc : Obj} {t1 : Tok} {cz : Addr} {oz : Obj} {sz : Int} {tsz : Tok} {cw : Addr} {ow : Obj}
  (hlam : (lamsOf 61)[15]? = some (.Lambda params body scope pos)) (mf : (f, kla_obj "<lambda>" qual params body scope [("world", cw), ("size", cz)] pm c' ctv) ∈ own) (mc : (c', oc) ∈ own) (hoc : oc.data = .fields vsc) (hoq : vsc[1]? = some (.str qual t1))
  (msize : (cz, oz) ∈ own) (hdsize : oz.data = .cell (some (.int sz tsz))) (hsz : 1 ≤ sz ∧ sz ≤ 8) (mworld : (cw, ow) ∈ own) (hdworld : ow.data = .cell (some (.ref W))) : WK w W C own f "OM" := by
  rw [show (lamsOf 61)[15]? = some (.Lambda _ _ _ _) from rfl] at hlam
  cases hlam
  refine' item_of mf mc hoc hoq ?hb ?c2 ?c3 ?c4 ?c5 ?_
  case hb => exact rfl
  case c2 => exact rfl
  case c3 => exact rfl
  case c4 => exact rfl
  case c5 => decide
  intro dW dC dO dF dA PL esW esC nW nC ls X hs A base g outer L mg mb p loose mean s Q E hr B F Xk Tp N hPO hE2
  replace msize := hs _ msize
  replace mworld := hs _ mworld
  k_steps
  all_goals (unfold Held)
  exact (put_OM (by omega) X) hr (by assumption) (by assumption) (by assumption) (by assumption) rfl rfl (by assumption) (fun g h' tk e dx tc ls' hs => hE2 g h' tk e dx tc ls' hs)

theorem item_62_0 {w : World} {W C : Addr} {own : List (Addr × Obj)} {f c' : Addr} {qual : Str} {params : Arguments} {body : Expr} {scope : Scope} {pos : Pos} {pm ctv : Value} {vsc : Array Value} {oc : Obj} {t1 : Tok} {cm : Addr} {om : Obj} {more : Int} {tmore : Tok} {cw : Addr} {ow : Obj}
  (hlam : (lamsOf 62)[0]? = some (.Lambda params body scope pos)) (mf : (f, kla_obj "<lambda>" qual params body scope [("world", cw), ("more", cm)] pm c' ctv) ∈ own) (mc : (c', oc) ∈ own) (hoc : oc.data = .fields vsc) (hoq : vsc[1]? = some (.str qual t1))
  (mmore : (cm, om) ∈ own) (hdmore : om.data = .cell (some (.int more tmore))) (hmore : 1 ≤ more ∧ more ≤ 9) (mworld : (cw, ow) ∈ own) (hdworld : ow.data = .cell (some (.ref W))) : WK w W C own f "DD" := by
  rw [show (lamsOf 62)[0]? = some (.Lambda _ _ _ _) from rfl] at hlam
  cases hlam
  refine' item_of mf mc hoc hoq ?hb ?c2 ?c3 ?c4 ?c5 ?_
  case hb => exact rfl
  case c2 => exact rfl
  case c3 => exact rfl
  case c4 => exact rfl
  case c5 => decide
  intro dW dC dO dF dA PL esW esC nW nC ls X hs A base g outer L mg mb p loose mean s Q E hr B F Xk Tp N hPO hE2
  replace mmore := hs _ mmore
  replace mworld := hs _ mworld
  k_steps
  all_goals (unfold Held)
  exact (dim_DD (X.mono fun q hq => .tail _ hq)) hr (by assumption) (by assumption) (by assumption) (by assumption) rfl rfl (by assumption) (fun g h' tk e dx tc ls' hs => hE2 g h' tk e dx tc ls' (fun q hq => hs q (.tail _ hq)))

theorem item_62_1 {w : World} {W C : Addr} {own : List (Addr × Obj)} {f c' : Addr} {qual : Str} {params : Arguments} {body : Expr} {scope : Scope} {pos : Pos} {pm ctv : Value} {vsc : Array Value} {oc : Obj} {t1 : Tok} {cm : Addr} {om : Obj} {more : Int} {tmore : Tok} {cw : Addr} {ow : Obj}
  (hlam : (lamsOf 62)[1]? = some (.Lambda params body scope pos)) (mf : (f, kla_obj "<lambda>" qual params body scope [("world", cw), ("more", cm)] pm c' ctv) ∈ own) (mc : (c', oc) ∈ own) (hoc : oc.data = .fields vsc) (hoq : vsc[1]? = some (.str qual t1))
  (mmore : (cm, om) ∈ own) (hdmore : om.data = .cell (some (.int more tmore))) (hmore : 1 ≤ more ∧ more ≤ 9) (mworld : (cw, ow) ∈ own) (hdworld : ow.data = .cell (some (.ref W))) : WK w W C own f "BS" := by
  rw [show (lamsOf 62)[1]? = some (.Lambda _ _ _ _) from rfl] at hlam
  cases hlam
  refine' item_of mf mc hoc hoq ?hb ?c2 ?c3 ?c4 ?c5 ?_
  case hb => exact rfl
  case c2 => exact rfl
  case c3 => exact rfl
  case c4 => exact rfl
  case c5 => decide
  intro dW dC dO dF dA PL esW esC nW nC ls X hs A base g outer L mg mb p loose mean s Q E hr B F Xk Tp N hPO hE2
  replace mmore := hs _ mmore
  replace mworld := hs _ mworld
  have mW := X.mW
  have mdW := X.mdW
  refine X.arrs fun {oA G dG HL esG nG cH th tgb} mA hA loA mG mdG mHL gHi gBs => ?_
  have gA := X.wf.ar
  k_steps
  all_goals (unfold Held)
  exact (place_BS (k := 3 + more) (by omega) (.tail _ mG) (.tail _ mdG) (.tail _ mHL) gHi gBs (.head _)) hr (by assumption) (by assumption) (by assumption) (by assumption) rfl rfl (by assumption) (fun g h' tk e dx tc ls' hs => hE2 g h' tk e dx tc ls' (fun q hq => hs q (.tail _ hq)))

theorem item_62_2 {w : World} {W C : Addr} {own : List (Addr × Obj)} {f c' : Addr} {qual : Str} {params : Arguments} {body : Expr} {scope : Scope} {pos : Pos} {pm ctv : Value} {vsc : Array Value} {oc : Obj} {t1 : Tok} {cw : Addr} {ow : Obj}
  (hlam : (lamsOf 62)[2]? = some (.Lambda params body scope pos)) (mf : (f, kla_obj "<lambda>" qual params body scope [("world", cw)] pm c' ctv) ∈ own) (mc : (c', oc) ∈ own) (hoc : oc.data = .fields vsc) (hoq : vsc[1]? = some (.str qual t1))
  (mworld : (cw, ow) ∈ own) (hdworld : ow.data = .cell (some (.ref W))) : WK w W C own f "SN" := by
  rw [show (lamsOf 62)[2]? = some (.Lambda _ _ _ _) from rfl] at hlam
  cases hlam
  refine' item_of mf mc hoc hoq ?hb ?c2 ?c3 ?c4 ?c5 ?_
  case hb => exact rfl
  case c2 => exact rfl
  case c3 => exact rfl
  case c4 => exact rfl
  case c5 => decide
  intro dW dC dO dF dA PL esW esC nW nC ls X hs A base g outer L mg mb p loose mean s Q E hr B F Xk Tp N hPO hE2
  replace mworld := hs _ mworld
  k_steps
  all_goals (unfold Held)
  exact (dim_SN (.head _) (X.mono fun q hq => .tail _ hq)) hr (by assumption) (by assumption) (by assumption) (by assumption) rfl rfl (by assumption) (fun g h' tk e dx tc ls' hs => hE2 g h' tk e dx tc ls' (fun q hq => hs q (.tail _ hq)))

theorem item_62_3 {w : World} {W C : Addr} {own : List (Addr × Obj)} {f c' : Addr} {qual : Str} {params : Arguments} {body : Expr} {scope : Scope} {pos : Pos} {pm ctv : Value} {vsc : Array Value} {oc : Obj} {t1 : Tok} {cm : Addr} {om : Obj} {more : Int} {tmore : Tok}
  (hlam : (lamsOf 62)[3]? = some (.Lambda params body scope pos)) (mf : (f, kla_obj "<lambda>" qual params body scope [("more", cm)] pm c' ctv) ∈ own) (mc : (c', oc) ∈ own) (hoc : oc.data = .fields vsc) (hoq : vsc[1]? = some (.str qual t1))
  (mmore : (cm, om) ∈ own) (hdmore : om.data = .cell (some (.int more tmore))) (hmore : 1 ≤ more ∧ more ≤ 9) : WK w W C own f "TM" := by
  rw [show (lamsOf 62)[3]? = some (.Lambda _ _ _ _) from rfl] at hlam
  cases hlam
  refine' item_of mf mc hoc hoq ?hb ?c2 ?c3 ?c4 ?c5 ?_
  case hb => exact rfl
  case c2 => exact rfl
  case c3 => exact rfl
  case c4 => exact rfl
  case c5 => decide
  intro dW dC dO dF dA PL esW esC nW nC ls X hs A base g outer L mg mb p loose mean s Q E hr B F Xk Tp N hPO hE2
  replace mmore := hs _ mmore
  k_steps
  all_goals (unfold Held)
  exact text_TM hr (by assumption) (by assumption) (by assumption) (by assumption) rfl rfl (by assumption) (fun g h' tk e dx tc ls' hs => hE2 g h' tk e dx tc ls' hs)

theorem item_62_4 {w : World} {W C : Addr} {own : List (Addr × Obj)} {f c' : Addr} {qual : Str} {params : Arguments} {body : Expr} {scope : Scope} {pos : Pos} {pm ctv : Value} {vsc : Array Value} {oc : Obj} {t1 : Tok} {cm : Addr} {om : Obj} {more : Int} {tmore : Tok}
  (hlam : (lamsOf 62)[4]? = some (.Lambda params body scope pos)) (mf : (f, kla_obj "<lambda>" qual params body scope [("more", cm)] pm c' ctv) ∈ own) (mc : (c', oc) ∈ own) (hoc : oc.data = .fields vsc) (hoq : vsc[1]? = some (.str qual t1))
  (mmore : (cm, om) ∈ own) (hdmore : om.data = .cell (some (.int more tmore))) (hmore : 1 ≤ more ∧ more ≤ 9) : WK w W C own f "LS" := by
  rw [show (lamsOf 62)[4]? = some (.Lambda _ _ _ _) from rfl] at hlam
  cases hlam
  refine' item_of mf mc hoc hoq ?hb ?c2 ?c3 ?c4 ?c5 ?_
  case hb => exact rfl
  case c2 => exact rfl
  case c3 => exact rfl
  case c4 => exact rfl
  case c5 => decide
  intro dW dC dO dF dA PL esW esC nW nC ls X hs A base g outer L mg mb p loose mean s Q E hr B F Xk Tp N hPO hE2
  replace mmore := hs _ mmore
  k_steps
  all_goals (unfold Held)
  exact (checked_LS (by rw [len_mul_k1 (by rfl)]; split <;> omega)) hr (by assumption) (by assumption) (by assumption) (by assumption) rfl rfl (by assumption) (fun g h' tk e dx tc ls' hs => hE2 g h' tk e dx tc ls' hs)

theorem item_62_5 {w : World} {W C : Addr} {own : List (Addr × Obj)} {f c' : Addr} {qual : Str} {params : Arguments} {body : Expr} {scope : Scope} {pos : Pos} {pm ctv : Value} {vsc : Array Value} {oc : Obj} {t1 : Tok} {cm : Addr} {om : Obj} {more : Int} {tmore : Tok}
  (hlam : (lamsOf 62)[5]? = some (.Lambda params body scope pos)) (mf : (f, kla_obj "<lambda>" qual params body scope [("more", cm)] pm c' ctv) ∈ own) (mc : (c', oc) ∈ own) (hoc : oc.data = .fields vsc) (hoq : vsc[1]? = some (.str qual t1))
  (mmore : (cm, om) ∈ own) (hdmore : om.data = .cell (some (.int more tmore))) (hmore : 1 ≤ more ∧ more ≤ 9) : WK w W C own f "OV" := by
  rw [show (lamsOf 62)[5]? = some (.Lambda _ _ _ _) from rfl] at hlam
  cases hlam
  refine' item_of mf mc hoc hoq ?hb ?c2 ?c3 ?c4 ?c5 ?_
  case hb => exact rfl
  case c2 => exact rfl
  case c3 => exact rfl
  case c4 => exact rfl
  case c5 => decide
  intro dW dC dO dF dA PL esW esC nW nC ls X hs A base g outer L mg mb p loose mean s Q E hr B F Xk Tp N hPO hE2
  replace mmore := hs _ mmore
  k_steps
  all_goals (unfold Held)
  exact (whole_OV (by omega)) hr (by assumption) (by assumption) (by assumption) (by assumption) rfl rfl (by assumption) (fun g h' tk e dx tc ls' hs => hE2 g h' tk e dx tc ls' hs)

theorem item_62_7 {w : World} {W C : Addr} {own : List (Addr × Obj)} {f c' : Addr} {qual : Str} {params : Arguments} {body : Expr} {scope : Scope} {pos : Pos} {pm ctv : Value} {vsc : Array Value} {oc : Obj} {t1 : Tok} {cc : Addr} {oc0 : Obj}
  (hlam : (lamsOf 62)[7]? = some (.Lambda params body scope pos)) (mf : (f, kla_obj "<lambda>" qual params body scope [("control", cc)] pm c' ctv) ∈ own) (mc : (c', oc) ∈ own) (hoc : oc.data = .fields vsc) (hoq : vsc[1]? = some (.str qual t1))
  (mcontrol : (cc, oc0) ∈ own) (hdcontrol : oc0.data = .cell (some (.ref C))) : WK w W C own f "NF" := by
  rw [show (lamsOf 62)[7]? = some (.Lambda _ _ _ _) from rfl] at hlam
  cases hlam
  refine' item_of mf mc hoc hoq ?hb ?c2 ?c3 ?c4 ?c5 ?_
  case hb => exact rfl
  case c2 => exact rfl
  case c3 => exact rfl
  case c4 => exact rfl
  case c5 => decide
  intro dW dC dO dF dA PL esW esC nW nC ls X hs A base g outer L mg mb p loose mean s Q E hr B F Xk Tp N hPO hE2
  replace mcontrol := hs _ mcontrol
  k_steps
  all_goals (unfold Held)
  exact (for_NF X) hr (by assumption) (by assumption) (by assumption) (by assumption) rfl rfl (by assumption) (fun g h' tk e dx tc ls' hs => hE2 g h' tk e dx tc ls' hs)

theorem item_62_8 {w : World} {W C : Addr} {own : List (Addr × Obj)} {f c' : Addr} {qual : Str} {params : Arguments} {body : Expr} {scope : Scope} {pos : Pos} {pm ctv : Value} {vsc : Array Value} {oc : Obj} {t1 : Tok} {cc : Addr} {oc0 : Obj}
  (hlam : (lamsOf 62)[8]? = some (.Lambda params body scope pos)) (mf : (f, kla_obj "<lambda>" qual params body scope [("control", cc)] pm c' ctv) ∈ own) (mc : (c', oc) ∈ own) (hoc : oc.data = .fields vsc) (hoq : vsc[1]? = some (.str qual t1))
  (mcontrol : (cc, oc0) ∈ own) (hdcontrol : oc0.data = .cell (some (.ref C))) : WK w W C own f "WE" := by
  rw [show (lamsOf 62)[8]? = some (.Lambda _ _ _ _) from rfl] at hlam
  cases hlam
  refine' item_of mf mc hoc hoq ?hb ?c2 ?c3 ?c4 ?c5 ?_
  case hb => exact rfl
  case c2 => exact rfl
  case c3 => exact rfl
  case c4 => exact rfl
  case c5 => decide
  intro dW dC dO dF dA PL esW esC nW nC ls X hs A base g outer L mg mb p loose mean s Q E hr B F Xk Tp N hPO hE2
  replace mcontrol := hs _ mcontrol
  k_steps
  all_goals (unfold Held)
  exact (wend_WE X) hr (by assumption) (by assumption) (by assumption) (by assumption) rfl rfl (by assumption) (fun g h' tk e dx tc ls' hs => hE2 g h' tk e dx tc ls' hs)

theorem item_62_9 {w : World} {W C : Addr} {own : List (Addr × Obj)} {f c' : Addr} {qual : Str} {params : Arguments} {body : Expr} {scope : Scope} {pos : Pos} {pm ctv : Value} {vsc : Array Value} {oc : Obj} {t1 : Tok} {cc : Addr} {oc0 : Obj}
  (hlam : (lamsOf 62)[9]? = some (.Lambda params body scope pos)) (mf : (f, kla_obj "<lambda>" qual params body scope [("control", cc)] pm c' ctv) ∈ own) (mc : (c', oc) ∈ own) (hoc : oc.data = .fields vsc) (hoq : vsc[1]? = some (.str qual t1))
  (mcontrol : (cc, oc0) ∈ own) (hdcontrol : oc0.data = .cell (some (.ref C))) : WK w W C own f "RG" := by
  rw [show (lamsOf 62)[9]? = some (.Lambda _ _ _ _) from rfl] at hlam
  cases hlam
  refine' item_of mf mc hoc hoq ?hb ?c2 ?c3 ?c4 ?c5 ?_
  case hb => exact rfl
  case c2 => exact rfl
  case c3 => exact rfl
  case c4 => exact rfl
  case c5 => decide
  intro dW dC dO dF dA PL esW esC nW nC ls X hs A base g outer L mg mb p loose mean s Q E hr B F Xk Tp N hPO hE2
  replace mcontrol := hs _ mcontrol
  k_steps
  all_goals (unfold Held)
  exact (ret_RG X) hr (by assumption) (by assumption) (by assumption) (by assumption) rfl rfl (by assumption) (fun g h' tk e dx tc ls' hs => hE2 g h' tk e dx tc ls' hs)

theorem item_62_10 {w : World} {W C : Addr} {own : List (Addr × Obj)} {f c' : Addr} {qual : Str} {params : Arguments} {body : Expr} {scope : Scope} {pos : Pos} {pm ctv : Value} {vsc : Array Value} {oc : Obj} {t1 : Tok} {cc : Addr} {oc0 : Obj} {cw : Addr} {ow : Obj}
  (hlam : (lamsOf 62)[10]? = some (.Lambda params body scope pos)) (mf : (f, kla_obj "<lambda>" qual params body scope [("world", cw), ("control", cc)] pm c' ctv) ∈ own) (mc : (c', oc) ∈ own) (hoc : oc.data = .fields vsc) (hoq : vsc[1]? = some (.str qual t1))
  (mcontrol : (cc, oc0) ∈ own) (hdcontrol : oc0.data = .cell (some (.ref C))) (mworld : (cw, ow) ∈ own) (hdworld : ow.data = .cell (some (.ref W))) : WK w W C own f "RW" := by
  rw [show (lamsOf 62)[10]? = some (.Lambda _ _ _ _) from rfl] at hlam
  cases hlam
  refine' item_of mf mc hoc hoq ?hb ?c2 ?c3 ?c4 ?c5 ?_
  case hb => exact rfl
  case c2 => exact rfl
  case c3 => exact rfl
  case c4 => exact rfl
  case c5 => decide
  intro dW dC dO dF dA PL esW esC nW nC ls X hs A base g outer L mg mb p loose mean s Q E hr B F Xk Tp N hPO hE2
  replace mcontrol := hs _ mcontrol
  replace mworld := hs _ mworld
  k_steps
  all_goals (unfold Held)
  exact (resume_RW X) hr (by assumption) (by assumption) (by assumption) (by assumption) rfl rfl (by assumption) (fun g h' tk e dx tc ls' hs => hE2 g h' tk e dx tc ls' hs)

theorem item_62_11 {w : World} {W C : Addr} {own : List (Addr × Obj)} {f c' : Addr} {qual : Str} {params : Arguments} {body : Expr} {scope : Scope} {pos : Pos} {pm ctv : Value} {vsc : Array Value} {oc : Obj} {t1 : Tok} {cm : Addr} {om : Obj} {more : Int} {tmore : Tok}
  (hlam : (lamsOf 62)[11]? = some (.Lambda params body scope pos)) (mf : (f, kla_obj "<lambda>" qual params body scope [("more", cm)] pm c' ctv) ∈ own) (mc : (c', oc) ∈ own) (hoc : oc.data = .fields vsc) (hoq : vsc[1]? = some (.str qual t1))
  (mmore : (cm, om) ∈ own) (hdmore : om.data = .cell (some (.int more tmore))) (hmore : 1 ≤ more ∧ more ≤ 9) : WK w W C own f "FC" := by
  rw [show (lamsOf 62)[11]? = some (.Lambda _ _ _ _) from rfl] at hlam
  cases hlam
  refine' item_of mf mc hoc hoq ?hb ?c2 ?c3 ?c4 ?c5 ?_
  case hb => exact rfl
  case c2 => exact rfl
  case c3 => exact rfl
  case c4 => exact rfl
  case c5 => decide
  intro dW dC dO dF dA PL esW esC nW nC ls X hs A base g outer L mg mb p loose mean s Q E hr B F Xk Tp N hPO hE2
  replace mmore := hs _ mmore
  k_steps
  all_goals (unfold Held)
  exact (told_FC (by omega)) hr (by assumption) (by assumption) (by assumption) (by assumption) rfl rfl (by assumption) (fun g h' tk e dx tc ls' hs => hE2 g h' tk e dx tc ls' hs)
end
section
open PySem.Calls PySem.Spec PyProof.Rows.LCg
theorem w_WY_0 : True := by
  k_with_none
  k_with "M k_room" => first | exact (Room.deeper (by assumption) _).lt (k := 5) (by decide) | exact (Room.deeper (by assumption) _).lt (k := 0) (by decide)
  k_with "M k_mem" => first | assumption | exact List.Mem.head _ | (refine' List.Mem.tail _ ?_; k_extra "M k_mem")
  k_with "M call ref" => ((with_reducible show wpAny _ _ (call (Value.ref _) _) _ _ _); refine held ?_)
  k_with "M call ref" => (k_here; (with_reducible show wpAny _ _ (call (Value.ref 34) _) _ _ _); k_dflt (refine' bx_make (by assumption) (by assumption) (by assumption) (by k_room) (by first | exact Nat.zero_le _ | exact Nat.le_refl _) ?_); intro h'w tk'w e'w dx'w mb'w)
  k_with "M RaisesB" => (k_dflt (refine' raisesB_K (by assumption) (by assumption) ?_))
  k_with "M exec Raise some none" => (k_here; k_dflt (refine' raise_K (by assumption) (by assumption) rfl ?_))
  k_with "M exec Raise some none" => (k_here; (with_reducible show wpAny _ _ (exec (Stmt.Raise (some (Expr.Call (Expr.Name _ _) [Expr.Constant _ _ _] [] _)) none _) _) _ _ _); k_dflt (refine' raise_lit (Room.deeper (by assumption) _) (by assumption) (by assumption) (by assumption) ?_ (by decide) rfl rfl); intro h'w tk'w e'w dx'w mb'w)
  k_with "M getAttr ref" => (k_here; k_dflt (refine' get_own ?zzk1 ?zzk2 ?zzk3 ?zzk4 ?zzk5 ?zzk6 ?zzk7 ?zzk8 ?zzk9 ?_; (case zzk1 => k_asm); (case zzk2 => k_asm); (case zzk3 => k_inst); (case zzk4 => k_is); (case zzk5 => k_is); (case zzk6 => k_is); (case zzk7 => k_is); (case zzk8 => assumption); (case zzk9 => k_handed); k_whole))
  k_with "M eval Name" => (k_here; kc_free; k_dflt (refine' nameX_F ?zzN ?zzc ?zzm ?zzd ?_ ?zza ?zzb; (case zza => rfl); (case zzb => rfl); (case zzN => k_asm); (case zzc => rfl); (case zzm => k_mem); (case zzd => assumption); k_whole))
  k_with "M compareOp In int ref" => (k_here; k_dflt (refine kda_in (knd := PySem.intKind _ _) (by k_asm) (by k_mem) (by k_asm) (by k_asm) (intKind_is _ _ _ _) false (not_three (by omega) (by omega) (by omega)) ?_))
  k_with "M compareOp NotIn int ref" => (k_here; k_dflt (refine kdg_notin (knd := PySem.intKind _ _) (by k_asm) (by k_mem) (by k_asm) (by k_asm) (intKind_is _ _ _ _) false (not_three (by omega) (by omega) (by omega)) ?_))
  k_with "M pyIter ref" => ((with_reducible show wpAny _ _ (pyIter (Value.ref _)) (fun it s₂ => LoopAtV _ _ _ _ _ _ _ _ _ it s₂) _ _); l_hasStore; k_listUnr)
  k_with "M getMethod ref" => (k_here; (with_reducible show wpAny _ _ (getMethod (Value.ref _) (Str.ofString "get") _) _ _ _); k_dflt (refine kdg_method (knd := PySem.strKind _ _) (by assumption) (by k_mem) (by assumption) ?_))
  k_with "M call builtin:dict.get" => (k_here; k_dflt (refine kdg_get2 (knd := PySem.strKind _ _) (by assumption) (by k_mem) (by assumption) (by assumption) (strKind_is _ _ _ _) none (by rfl) ?_))
  k_with "M PassesOwn" => assumption
  k_with "M exec For Tuple Call cons nil" => (k_here; (rename Fr _ _ _ _ => lF'w); (with_unfolding_all refine' For_turns lF'w ?_ (by intro _; rfl) (by assumption); k_whole))
  k_with "M exec For Name Attribute cons nil" => (k_here; (rename Fr _ _ _ _ => lF'w); (with_unfolding_all refine' For_turns lF'w ?_ (by intro _; rfl) (by assumption); k_whole))
  k_with "M pyIter ref" => (k_here; (with_reducible show wpAny _ _ (pyIter (Value.ref _)) (fun it s₂ => TurnsAt _ _ _ _ _ _ _ _ _ it s₂) _ _); (rename Fr _ _ _ _ => lF'w); (rename News _ _ _ _ => lN'w); (with_unfolding_all first | refine kta_keys (knd := PySem.intKind _ _) (enc := PyData.int) (xs := [Itm.tok (fun t => Value.int 1 t), Itm.tok (fun t => Value.int 2 t), Itm.tok (fun t => Value.int 3 t)]) (by rfl) lF'w lN'w (by k_mem) (by assumption) (by assumption) (fun _ _ h => Value.isInt_shape h) (by rfl) ?_ | refine kta_keys (knd := PySem.intKind _ _) (enc := PyData.int) (xs := [Itm.tok (fun t => Value.int 1 t), Itm.tok (fun t => Value.int 2 t)]) (by rfl) lF'w lN'w (by k_mem) (by assumption) (by assumption) (fun _ _ h => Value.isInt_shape h) (by rfl) ?_ | refine kta_keys (knd := PySem.intKind _ _) (enc := PyData.int) (xs := [Itm.tok (fun t => Value.int 1 t)]) (by rfl) lF'w lN'w (by k_mem) (by assumption) (by assumption) (fun _ _ h => Value.isInt_shape h) (by rfl) ?_ | refine kta_keys (knd := PySem.intKind _ _) (enc := PyData.int) (xs := []) (by rfl) lF'w lN'w (by k_mem) (by assumption) (by assumption) (fun _ _ h => Value.isInt_shape h) (by rfl) ?_); clear lF'w lN'w; intro i'w l1'w; (try k_lt l1'w))
  k_with "M compareOp NotEq ref ref" => (k_here; k_dflt (refine ke_ne_ints (by is_list) (by is_list) (by l_ints) (by l_ints) (Room.room (Room.deeper (by assumption) _) (by decide)) ?_); ke_norm)
  k_with "M eval ListComp" => (k_here; lct_look; (with_reducible show wpAny _ _ (eval (Expr.ListComp _ [⟨Expr.Name _ _, Expr.Name _ _, _, _⟩] _ _) _) _ _ _); k_dflt (refine comp_str (F₀ := by k_asm) (by with_unfolding_all rfl) (by decide) (by rfl) (by decide) (by rfl) ?_))
  k_with "M StrSrcT" => (k_here; (with_unfolding_all refine ⟨_, _, _, _, _, rfl, (by rfl), (by assumption), (by assumption), (by assumption), (by assumption), rfl, (by assumption), ?_⟩); intro g'w; refine held ?_)
  k_with "M CompRestT" => ((with_unfolding_all refine LCt.CompRestT.succ ?_); intro v'w I'w oI'w C'w oC'w D'w m'w h'w tk'w E'w hv'w hC'w hx'w F'w N'w off'w ne'w; (obtain ⟨t9'w, hv9'w⟩ := hv'w); subst hv9'w; (try simp only [List.getD_cons_zero, List.getD_cons_succ] at hx'w))
  k_with "M lcg_off" => assumption
  k_with "M lcg_src" => first | exact True.intro | (show _ ∈ _; k_mem)
  k_with "M And" => (k_here; (exact ⟨by first | rfl | exact decide_eq_false (by omega), _, rfl⟩))
  k_with "M subscriptTail" => (k_here; (try ((fail_if_success (with_reducible show wpAny _ _ (subscriptTail (Expr.Name _ _) _ _ _) _ _ _)); k_dflt (refine kba_turn (value' := Expr.Name "_" ⟨0, 0, 0, 0⟩) (fun _ => rfl) ?_))); k_dflt (first
  | ((with_reducible show wpAny _ _ (subscriptTail _ _ (Value.ref _) (Value.str _ _)) _ _ _); refine kda_item (knd := PySem.strKind _ _) (by assumption) (by k_mem) (by assumption) (strKind_is _ _ _ _) (by rfl) ?_)
  | ((with_reducible show wpAny _ _ (subscriptTail _ _ (Value.ref _) (Value.int _ _)) _ _ _); refine kda_item (knd := PySem.intKind _ _) (by assumption) (by k_mem) (by assumption) (intKind_is _ _ _ _) (by rfl) ?_)))
  k_with "M compareOp In int ref" => (k_here; k_dflt (refine kda_in (knd := PySem.intKind _ _) (by assumption) (by k_mem) (by assumption) (by assumption) (intKind_is _ _ _ _) true (by rfl) ?_))
  k_with "M compareOp NotIn int ref" => (k_here; k_dflt (refine kdg_notin (knd := PySem.intKind _ _) (by assumption) (by k_mem) (by assumption) (by assumption) (intKind_is _ _ _ _) true (by rfl) ?_); (try dsimp only [Bool.not_true]))
  k_with "M compareOp NotIn str ref" => (k_here; k_dflt (first
  | refine kdg_notin (knd := PySem.strKind _ _) (by assumption) (by k_mem) (by assumption) (by assumption) (strKind_is _ _ _ _) true (by rfl) ?_
  | refine kdg_notin (knd := PySem.strKind _ _) (by assumption) (by k_mem) (by assumption) (by assumption) (strKind_is _ _ _ _) false (by rfl) ?_
  | refine notin_tuple_strs (News.isTup (by assumption) (by k_mem)) (by repeat constructor) ?_); (try dsimp only [Bool.not_true, Bool.not_false]))
  k_with "M compareOp In str ref" => (k_here; k_dflt (first
  | refine kda_in (knd := PySem.strKind _ _) (by assumption) (by k_mem) (by assumption) (by assumption) (strKind_is _ _ _ _) true (by rfl) ?_
  | refine kda_in (knd := PySem.strKind _ _) (by assumption) (by k_mem) (by assumption) (by assumption) (strKind_is _ _ _ _) false (by rfl) ?_))
  k_with "M eval ListComp" => refine held ?_
  k_with "M pyIter ref" => ((with_reducible show wpAny _ _ (pyIter _) (fun it s₂ => comp_genTAt _ _ _ _ _ _ _ _ _ _ _ _ _ it s₂) _ _); refine held ?_)
  k_with "M pyIter ref" => ((with_reducible show wpAny _ _ (pyIter _) (fun it s₂ => comp_gen0At _ _ _ _ _ _ _ _ _ _ _ _ it s₂) _ _); refine held ?_)
  trivial
theorem fill_upY {w : World} {h : Heap} (X : (hd.heap_1_39 w.params).In h) : RW.row.prog = RW.row.prog := by
  revert X; k_fill; intro _; rfl

inductive KillJ (i : Nat) (ys : List Value) : Prop
  | mk (ns : List Int) (h : IntsAre ys ns) (l : ns.length ≤ i) (p : 0 < i → ns ≠ [])
inductive FileOf (w : World) (ls : List (Addr × Obj)) (vv : Value) (i : Nat) (v : Option Value) : Prop
  | mk (d : Addr) (o : Obj) (x : Str) (t1 t2 t3 t4 t5 t6 : Tok) (md : Str) (at' sz : Int) (bf : Str) (rc : Int) (e : vv = .ref d) (m : (d, o) ∈ ls)
    (h : o.IsDictOf (PySem.strKind RW.row.prog w) [("mode", .str md t1), ("name", .str x t2), ("at", .int at' t3), ("size", .int sz t4), ("buffer", .str bf t5), ("record", .int rc t6)]) (hx : i = 0 → x = "A") (hv : v = some (.ref d))
theorem get_da {prog : Program} {w : World} {A : Around} {h₀ : Heap} {L : Addr} {s : Shared} {E Q : Value → Shared → Prop} {news : List (Addr × Obj)} {d : Addr} {o : Obj} {κ : Type} [DecidableEq κ] {knd : KeyKind prog w κ} {kvs : List (κ × Value)} {k : κ} {key v : Value} (N : News h₀ L s.heap news) (hp : (d, o) ∈ news) (hd : o.IsDictOf knd kvs) (hkey : knd.is k key = true) (hl : valueAt kvs k = some v) (h : Q v { s with toks := s.toks + 1 }) :
    wpAny (model prog w) A (getItem (.ref d) key) Q E s := wpAny_getItem_of hkey (kda_dict N hp hd).mapOf hl h
theorem w_WY_1 : True := by
  k_with "M getItem ref int" => (k_here; k_dflt (refine get_da (knd := PySem.intKind _ _) (by assumption) (by k_mem) (by assumption) (intKind_is _ _ _ _) (by assumption) ?_))
  k_with "M getItem ref str" => (k_here; k_dflt (refine get_da (knd := PySem.strKind _ _) (by assumption) (by k_mem) (by assumption) (strKind_is _ _ _ _) (by rfl) ?_))
  trivial

theorem ints_two {ys : List Value} {a b : Int} (h : IntsAre ys [a, b]) : ∃ t u, ys = [Value.int a t, Value.int b u] := by
  cases h with | cons n t h => cases h with | cons n t h => cases h; exact ⟨_, _, rfl⟩

theorem kill_AO {w : World} {W dW C dC dO dF dA PL : Addr} {esW esC : List DictEntry} {nW nC : Nat} {ls : List (Addr × Obj)} {t1 : Tok} (X : CW w W dW C dC dO dF dA PL esW esC nW nC ls) : RaisesK 303 w ls (call (.ref 307) [.ref W, .str "A" t1]) "AO" := by
  have mW := X.mW
  have mdW := X.mdW
  have gO := X.wf.op
  refine X.open3 fun {oO d1 d2 d3 o1 o2 o3 buf t11 t12 t13 t14 t15 t16 t21 t22 t23 t24 t25 t26 t31 t32 t33 t34 t35 t36} mO hO loO m1 h1 lo1 m2 h2 lo2 m3 h3 lo3 => ?_
  refine X.files fun {oF tfB tfA tfC} mF hF loF => ?_
  have gF := X.wf.fi
  refine' def_raisesC_sub [(W, instObj 386 dW), (dW, dictOf esW nW), (dO, oO), (d1, o1), (d2, o2), (d3, o3), (dF, oF)] (binds := [("world", .ref W), ("name", .str "A" t1)]) ?ho ?hcd ?hb ?hl ?hnd ?c2 ?c3 ?c4 ?hn ?hs ?_
  case ho => k_is
  case hcd => k_is
  case hb => first | exact fun s _ => BindsTo.of_eq rfl | exact fun s Xs => binds_K Xs rfl (by k_is) rfl rfl rfl
  case hl => exact rfl
  case hnd => decide +kernel
  case c2 => exact rfl
  case c3 => exact rfl
  case c4 => exact rfl
  case hn => decide
  case hs => exact List.forall_mem_cons.mpr ⟨mW, List.forall_mem_cons.mpr ⟨mdW, List.forall_mem_cons.mpr ⟨mO, List.forall_mem_cons.mpr ⟨m1, List.forall_mem_cons.mpr ⟨m2, List.forall_mem_cons.mpr ⟨m3, List.forall_mem_cons.mpr ⟨mF, List.forall_mem_nil _⟩⟩⟩⟩⟩⟩⟩
  intro A base g outer L mg mb p loose mean s Q E cells hr B F Xk Tp N Y l1 hPO hE1
  (try k_lt l1)
  k_cells Y
  (try simp only [List.cons_append, List.nil_append] at N)
  (try dsimp only)
  k_steps

  all_goals (unfold Held)
  refine comp_genT (by k_asm) (by with_unfolding_all rfl) (by decide) (by rfl) (by decide) ?_
  k_steps
  all_goals (unfold Held)
  refine src_dictT KillJ rfl (by k_asm) (by k_asm) (by k_mem) hO loO (by size_fits) (by rfl) (by rfl) ⟨[], .nil, Nat.le_refl _, fun h => absurd h (Nat.lt_irrefl _)⟩ (fun i ys h => by obtain ⟨ns, h1, h2, _⟩ := h; rw [IntsAre.length h1]; exact h2) ?_ ?_
  · intro i k vv t own C oC mC D ys h tk E' hkv b1 hoC hJ F4 N4
    clear hPO hE1
    simp only [List.cons_append, List.nil_append] at N4
    have hd : FileOf w ((W, instObj 386 dW) :: (dW, dictOf esW nW) :: (dO, oO) :: (d1, o1) :: (d2, o2) :: (d3, o3) :: (dF, oF) :: own) vv i (valueAt [((1 : Int), Value.ref d1), (2, .ref d2), (3, .ref d3)] k) := by
      match i, hkv with
      | 0, hv => cases hv; exact ⟨_, _, _, _, _, _, _, _, _, _, _, _, _, _, rfl, by k_mem, h1, fun _ => rfl, rfl⟩
      | 1, hv => cases hv; exact ⟨_, _, _, _, _, _, _, _, _, _, _, _, _, _, rfl, by k_mem, h2, fun h => absurd h (by decide), rfl⟩
      | 2, hv => cases hv; exact ⟨_, _, _, _, _, _, _, _, _, _, _, _, _, _, rfl, by k_mem, h3, fun h => absurd h (by decide), rfl⟩
      | n + 3, hv => cases hv
    obtain ⟨d, o, x, t1, t2, t3, t4, t5, t6, md, at', sz, bf, rc, rfl, hmd, hdd, hx, hva⟩ := hd
    obtain ⟨ns, hi, hl, hp⟩ := hJ
    k_steps
    · exact GEnd.intro F4 N4 (fun q hq => hq) ⟨ns ++ [k], hi.append (.cons _ _ .nil), by rw [List.length_append]; exact Nat.add_le_add_right hl 1, fun _ h => List.cons_ne_nil _ _ (List.append_eq_nil_iff.mp h).2⟩
    · refine GEnd.intro F4 N4 (fun q hq => hq) ⟨ns, hi, Nat.le_succ_of_le hl, fun _ => hp (Nat.pos_of_ne_zero fun h => ?_)⟩
      have e := hx h
      subst e
      exact absurd (show (("A" : Str) == "A") = false by assumption) (by decide +kernel)
  intro D1 h1 tk1 ys1 hy1 F1 N1 l1
  obtain ⟨ns, hi, _, hp⟩ := hy1
  obtain ⟨n, ns, rfl⟩ := List.exists_cons_of_ne_nil (hp (Nat.succ_pos 2))
  have hne : decide (n :: ns = ([] : List Int)) = false := decide_eq_false (List.cons_ne_nil _ _)
  k_steps
  all_goals exact hE1 _ _ _ _ _ _ _ (by assumption) (by assumption) (by assumption) (fun q hq => by (repeat (first | exact hq | refine List.Mem.tail _ ?_)))


theorem fields_FO {w : World} {W dW C dC dO dF dA PL : Addr} {esW esC : List DictEntry} {nW nC : Nat} {ls : List (Addr × Obj)} {tc u1 u2 u3 u4 : Tok} {PT T1 T2 : Addr} {nP : Nat} {sz : Int} (hsz : 1 ≤ sz ∧ sz ≤ 8) (mP : (PT, listOf #[.ref T1, .ref T2] nP) ∈ ls) (mT1 : (T1, tup [.int 8 u1, .str "A$" u2]) ∈ ls) (mT2 : (T2, tup [.int sz u3, .str "B$" u4]) ∈ ls) (X : CW w W dW C dC dO dF dA PL esW esC nW nC ls) : RaisesK 303 w ls (call (.ref 347) [.ref W, .int 3 tc, .ref PT]) "FO" := by
  have mW := X.mW
  have mdW := X.mdW
  have gO := X.wf.op
  refine X.open3 fun {oO d1 d2 d3 o1 o2 o3 buf t11 t12 t13 t14 t15 t16 t21 t22 t23 t24 t25 t26 t31 t32 t33 t34 t35 t36} mO hO loO m1 h1 lo1 m2 h2 lo2 m3 h3 lo3 => ?_
  refine' def_raises_sub [(W, instObj 386 dW), (dW, dictOf esW nW), (dO, oO), (d3, o3), (PT, listOf #[.ref T1, .ref T2] nP), (T1, tup [.int 8 u1, .str "A$" u2]), (T2, tup [.int sz u3, .str "B$" u4])] (binds := [("world", .ref W), ("channel", .int 3 tc), ("parts", .ref PT)]) ?ho ?hcd ?hb ?hl ?c2 ?c3 ?c4 ?c5 ?hn ?hs ?_
  case ho => k_is
  case hcd => k_is
  case hb => first | exact fun s _ => BindsTo.of_eq rfl | exact fun s Xs => binds_K Xs rfl (by k_is) rfl rfl rfl
  case hl => exact locs rfl
  case c2 => exact rfl
  case c3 => exact rfl
  case c4 => exact rfl
  case c5 => decide
  case hn => decide
  case hs => exact List.forall_mem_cons.mpr ⟨mW, List.forall_mem_cons.mpr ⟨mdW, List.forall_mem_cons.mpr ⟨mO, List.forall_mem_cons.mpr ⟨m3, List.forall_mem_cons.mpr ⟨mP, List.forall_mem_cons.mpr ⟨mT1, List.forall_mem_cons.mpr ⟨mT2, List.forall_mem_nil _⟩⟩⟩⟩⟩⟩⟩
  intro A base g outer L mg mb p loose mean s Q E hr B F Xk Tp N hPO hE1
  k_steps
  all_goals (unfold Held)
  refine chan_OK3 (List.Mem.head _) (.tail _ (.head _)) (.tail _ (.tail _ (.head _))) gO (.tail _ (.tail _ (.tail _ (.head _)))) hO loO (.tail _ (.tail _ (.tail _ (.tail _ (.head _))))) h3 hr (by assumption) (by assumption) (by assumption) (by assumption) rfl rfl (by assumption) (fun v h9 tk9 hv F9 N9 => ?_)
  subst hv
  k_sweep
  k_steps
  all_goals (unfold Held)
  refine comp_genT (by k_asm) (by with_unfolding_all rfl) (by decide) (by rfl) (by decide) ?_
  k_steps
  all_goals (unfold Held)
  refine src_pairsT (vs := [.ref T1, .ref T2]) (fun _ ys => ys = []) rfl (by k_asm) (by k_asm) (by k_mem) rfl rfl (by size_fits) (by rfl) (by rfl) (by decide) (by rfl) rfl (fun i ys h => by rw [h]; exact Nat.zero_le _) (fun _ v₁ _ => ∃ k t, v₁ = Value.int k t ∧ 0 ≤ k) (fun i v hv => by
      match i, hv with
      | 0, hv => cases hv; exact ⟨T1, _, _, _, _, rfl, by k_mem, rfl, rfl, ⟨_, _, rfl, by decide⟩⟩
      | 1, hv => cases hv; exact ⟨T2, _, _, _, _, rfl, by k_mem, rfl, rfl, ⟨_, _, rfl, Int.le_trans (by decide) hsz.1⟩⟩
      | n + 2, hv => cases hv) ?_ ?_
  · intro i v₁ v₂ own C oC mC D ys h tk E' hv b1 b2 hoC hJ F4 N4
    obtain ⟨k, t, rfl, hk⟩ := hv
    clear hPO hE1
    k_steps
    exact GEnd.intro F4 N4 (fun q hq => hq) hJ
  intro D1 h1 tk1 ys1 hy1 F1 N1 l1
  subst hy1
  k_steps
  all_goals (unfold Held)
  refine comp_gen0 (by k_asm) (by with_unfolding_all rfl) (by decide) (by rfl) (by decide) ?_
  k_steps
  all_goals (unfold Held)
  refine src_pairs0 (vs := [.ref T1, .ref T2]) (fun i ys => IntsAre ys (([8, sz] : List Int).take i)) rfl (by k_asm) (by k_asm) (by k_mem) rfl rfl (by size_fits) (by rfl) (by rfl) (by decide) (by rfl) .nil (fun i ys h => by rw [IntsAre.length h, List.length_take]; exact Nat.min_le_left _ _) (fun i v₁ _ => ∃ k t, v₁ = Value.int k t ∧ ([8, sz] : List Int)[i]? = some k) (fun i v hv => by
      match i, hv with
      | 0, hv => cases hv; exact ⟨T1, _, _, _, _, rfl, by k_mem, rfl, rfl, ⟨_, _, rfl, rfl⟩⟩
      | 1, hv => cases hv; exact ⟨T2, _, _, _, _, rfl, by k_mem, rfl, rfl, ⟨_, _, rfl, rfl⟩⟩
      | n + 2, hv => cases hv) ?_ ?_
  · intro i v₁ v₂ own C oC mC D ys h tk E' hv b1 b2 hoC hJ F4 N4
    obtain ⟨k, t, rfl, hk⟩ := hv
    clear hPO hE1
    k_steps
    refine GEnd.intro F4 N4 (fun q hq => hq) ?_
    rw [List.take_add_one, hk]
    exact hJ.append (.cons _ _ .nil)
  intro D2 h2 tk2 ys2 hy2 F2 N2 l2
  replace hy2 : IntsAre ys2 [8, sz] := hy2
  obtain ⟨a8, a9, rfl⟩ := ints_two hy2
  have hsum : 8 < ([8, sz] : List Int).sum := by simp only [List.sum_cons, List.sum_nil]; omega
  k_steps
  all_goals exact hE1 _ _ _ _ _ _ _ (by assumption) (by assumption) (by assumption) (fun q hq => by (repeat (first | exact hq | refine List.Mem.tail _ ?_)))


theorem item_61_7 {w : World} {W C : Addr} {own : List (Addr × Obj)} {f c' : Addr} {qual : Str} {params : Arguments} {body : Expr} {scope : Scope} {pos : Pos} {pm ctv : Value} {vsc : Array Value} {oc : Obj} {t1 : Tok} {cw : Addr} {ow : Obj}
  (hlam : (lamsOf 61)[7]? = some (.Lambda params body scope pos)) (mf : (f, kla_obj "<lambda>" qual params body scope [("world", cw)] pm c' ctv) ∈ own) (mc : (c', oc) ∈ own) (hoc : oc.data = .fields vsc) (hoq : vsc[1]? = some (.str qual t1))
  (mworld : (cw, ow) ∈ own) (hdworld : ow.data = .cell (some (.ref W))) : WK w W C own f "AO" := by
  rw [show (lamsOf 61)[7]? = some (.Lambda _ _ _ _) from rfl] at hlam
  cases hlam
  refine' item_of mf mc hoc hoq ?hb ?c2 ?c3 ?c4 ?c5 ?_
  case hb => exact rfl
  case c2 => exact rfl
  case c3 => exact rfl
  case c4 => exact rfl
  case c5 => decide
  intro dW dC dO dF dA PL esW esC nW nC ls X hs A base g outer L mg mb p loose mean s Q E hr B F Xk Tp N hPO hE2
  replace mworld := hs _ mworld
  k_steps
  all_goals (unfold Held)
  exact (kill_AO X) hr (by assumption) (by assumption) (by assumption) (by assumption) rfl rfl (by assumption) (fun g h' tk e dx tc ls' hs => hE2 g h' tk e dx tc ls' hs)

theorem item_61_14 {w : World} {W C : Addr} {own : List (Addr × Obj)} {f c' : Addr} {qual : Str} {params : Arguments} {body : Expr} {scope : Scope} {pos : Pos} {pm ctv : Value} {vsc : Array Value} {oc : Obj} {t1 : Tok} {cz : Addr} {oz : Obj} {sz : Int} {tsz : Tok} {cw : Addr} {ow : Obj}
  (hlam : (lamsOf 61)[14]? = some (.Lambda params body scope pos)) (mf : (f, kla_obj "<lambda>" qual params body scope [("world", cw), ("size", cz)] pm c' ctv) ∈ own) (mc : (c', oc) ∈ own) (hoc : oc.data = .fields vsc) (hoq : vsc[1]? = some (.str qual t1))
  (msize : (cz, oz) ∈ own) (hdsize : oz.data = .cell (some (.int sz tsz))) (hsz : 1 ≤ sz ∧ sz ≤ 8) (mworld : (cw, ow) ∈ own) (hdworld : ow.data = .cell (some (.ref W))) : WK w W C own f "FO" := by
  rw [show (lamsOf 61)[14]? = some (.Lambda _ _ _ _) from rfl] at hlam
  cases hlam
  refine' item_of mf mc hoc hoq ?hb ?c2 ?c3 ?c4 ?c5 ?_
  case hb => exact rfl
  case c2 => exact rfl
  case c3 => exact rfl
  case c4 => exact rfl
  case c5 => decide
  intro dW dC dO dF dA PL esW esC nW nC ls X hs A base g outer L mg mb p loose mean s Q E hr B F Xk Tp N hPO hE2
  replace msize := hs _ msize
  replace mworld := hs _ mworld
  k_steps
  all_goals (unfold Held)
  exact (fields_FO hsz (.head _) (.tail _ (.tail _ (.head _))) (.tail _ (.head _)) (X.mono fun q hq => .tail _ (.tail _ (.tail _ hq)))) hr (by assumption) (by assumption) (by assumption) (by assumption) rfl rfl (by assumption) (fun g h' tk e dx tc ls' hs => hE2 g h' tk e dx tc ls' (fun q hq => hs q (.tail _ (.tail _ (.tail _ hq)))))
end
section
open PySem.Calls PySem.Spec PyProof.Rows.LCg
theorem w_WALL_0 : True := by
  k_with_none
  k_with "M k_room" => ((try simp only [depth_mark, depth_under_make, depth_under_kw, depth_in1, depth_deeper]); exact Nat.lt_of_lt_of_le (m := 900) (by decide) (by decide))
  k_with "M exec Raise some none" => (k_here; (with_reducible show wpAny _ _ (exec (Stmt.Raise (some (Expr.Call (Expr.Name ("BasicError" : Str) _) _ [] _)) none _) _) _ _ _); k_dflt (refine' raise_K ?zzF ?zzX ?zzh ?_; (case zzF => k_asm); (case zzX => k_asm); (case zzh => first | rfl | assumption); k_whole))
  k_with "M call ref" => (k_here; k_dflt (refine wpAny_call ?_; refine' code_defC ?zzk1 ?zzk2 ?zzk3 ?zzk4 ?zzk5 ?zzkA ?zzkF ?zzkK ?zzk6 ?zzk7 ?zzk8 ?zzk9 ?zzkB ?zzkD ?_ ?zzc2 ?zzc3 ?zzc4; (case zzkA => exact Around.frames_deeper (Below.stack (by assumption))); (case zzkF => exact rfl); (case zzkK => exact rfl); (case zzk1 => k_asm); (case zzk2 => k_asm); (case zzk3 => k_asm); (case zzk4 => k_asm); (case zzk5 => k_asm); (case zzk6 => k_is); (case zzk7 => k_is); (case zzk8 => k_room); (case zzk9 => first | exact BindsTo.of_eq rfl | exact binds_K (by k_in) rfl (by k_is) rfl rfl rfl | fail "k_enter: no rule for these arguments"); (case zzkB => exact rfl); (case zzkD => decide +kernel); (case zzc2 => exact rfl); (case zzc3 => exact rfl); (case zzc4 => exact rfl); k_whole; intro g'w L'w h'w tk'w cells'w FG'w F'w N'w Y'w B'w X'w T'w l1'w; (try k_lt l1'w); k_cells Y'w; (try simp only [List.cons_append, List.nil_append] at N'w); (try dsimp only); (try k_lift B'w); (try k_fold)))
  k_with "M call ref" => (k_here; k_dflt (refine wpAny_call ?_; refine' code_def ?zzk1 ?zzk2 ?zzk3 ?zzk4 ?zzk5 ?zzkA ?zzkF ?zzkK ?zzk6 ?zzk7 ?zzk8 ?zzk9 ?zzkB ?_ ?zzc2 ?zzc3 ?zzc4 ?zzc5; (case zzkA => exact Around.frames_deeper (Below.stack (by assumption))); (case zzkF => exact rfl); (case zzkK => exact rfl); (case zzk1 => k_asm); (case zzk2 => k_asm); (case zzk3 => k_asm); (case zzk4 => k_asm); (case zzk5 => k_asm); (case zzk6 => k_is); (case zzk7 => k_is); (case zzk8 => k_room); (case zzk9 => first | exact BindsTo.of_eq rfl | exact binds_K (by k_in) rfl (by k_is) rfl rfl rfl | fail "k_enter: no rule for these arguments"); (case zzc5 => decide); (case zzkB => exact locs rfl); (case zzc2 => exact rfl); (case zzc3 => exact rfl); (case zzc4 => exact rfl); k_whole; intro g'w L'w h'w FG'w F'w N'w B'w X'w T'w; (try dsimp only); (try k_lift B'w); (try k_fold)))
  k_with "M call ref" => (k_here; (with_reducible show wpAny _ _ (call (Value.ref 34) _) _ _ _); k_dflt (refine' bx_make ?zzF ?zzX ?zzT ?zzr ?zzl ?_; (case zzF => k_asm); (case zzX => k_asm); (case zzT => k_asm); (case zzr => k_room); (case zzl => first | exact Nat.zero_le _ | exact Nat.le_refl _); k_whole); intro h'w tk'w e'w dx'w mb'w)
  k_with "M RaisesB" => (k_dflt (refine' raisesB_K ?zzF ?zzM ?_; (case zzF => k_asm); (case zzM => assumption); k_whole))
  k_with "M leaving ref" => (k_here; first
  | (refine' leave_newB ?zzk1 ?zzk0 ?zzk2 ?zzk3 ?zzkf ?zzkk ?_; (case zzk0 => assumption); (case zzk1 => assumption); (case zzk2 => assumption); (case zzk3 => k_asm); (case zzkf => rfl); (case zzkk => rfl); k_whole; intro h'w R'w U'w; (try dsimp only at R'w U'w ⊢))
  | (refine' leave_onB ?zzk1 ?zzk2 ?zzk3 ?zzk4 ?zzkf ?_; (case zzk3 => assumption); (case zzk1 => assumption); (case zzk4 => assumption); (case zzk2 => assumption); (case zzkf => rfl); k_whole; intro h'w R'w U'w; (try dsimp only at R'w U'w ⊢)))
  k_with "M getAttr ref" => (k_here; k_dflt (refine' get_own ?zzk1 ?zzk2 ?zzk3 ?zzk4 ?zzk5 ?zzk6 ?zzk7 ?zzk8 ?zzk9 ?_; (case zzk1 => k_asm); (case zzk2 => k_asm); (case zzk3 => k_inst); (case zzk4 => k_is); (case zzk5 => k_is); (case zzk6 => k_is); (case zzk7 => k_is); (case zzk8 => assumption); (case zzk9 => k_handed); k_whole))
  k_with "M eval Name" => (k_here; kc_free; k_dflt (refine' nameX_F ?zzN ?zzc ?zzm ?zzd ?_ ?zza ?zzb; (case zza => rfl); (case zzb => rfl); (case zzN => k_asm); (case zzc => rfl); (case zzm => k_mem); (case zzd => assumption); k_whole))
  k_with "M compareOp In int ref" => (k_here; k_dflt (refine kda_in (knd := PySem.intKind _ _) (by k_asm) (by k_mem) (by k_asm) (by k_asm) (intKind_is _ _ _ _) false (not_three (by omega) (by omega) (by omega)) ?_))
  k_with "M compareOp NotIn int ref" => (k_here; k_dflt (refine kdg_notin (knd := PySem.intKind _ _) (by k_asm) (by k_mem) (by k_asm) (by k_asm) (intKind_is _ _ _ _) false (not_three (by omega) (by omega) (by omega)) ?_))
  k_with "M exec For Name Attribute cons nil" => (k_here; (rename Fr _ _ _ _ => lF'w); (with_unfolding_all refine' For_turns lF'w ?_; k_whole))
  k_with "M pyIter ref" => (k_here; (with_reducible show wpAny _ _ (pyIter (Value.ref _)) (fun it s₂ => TurnsAt _ _ _ _ _ _ _ _ _ it s₂) _ _); (rename Fr _ _ _ _ => lF'w); (rename News _ _ _ _ => lN'w); (with_unfolding_all first
  | refine kta_keys (knd := PySem.intKind _ _) (enc := PyData.int) (xs := [Itm.tok (fun t => Value.int 1 t), Itm.tok (fun t => Value.int 2 t), Itm.tok (fun t => Value.int 3 t)]) (by rfl) lF'w lN'w (by k_mem) (by k_asm) (by k_asm) (fun _ _ h => Value.isInt_shape h) (by rfl) ?_
  | refine kta_keys (knd := PySem.intKind _ _) (enc := PyData.int) (xs := [Itm.tok (fun t => Value.int 1 t), Itm.tok (fun t => Value.int 2 t)]) (by rfl) lF'w lN'w (by k_mem) (by k_asm) (by k_asm) (fun _ _ h => Value.isInt_shape h) (by rfl) ?_
  | refine kta_keys (knd := PySem.intKind _ _) (enc := PyData.int) (xs := [Itm.tok (fun t => Value.int 1 t)]) (by rfl) lF'w lN'w (by k_mem) (by k_asm) (by k_asm) (fun _ _ h => Value.isInt_shape h) (by rfl) ?_
  | refine kta_keys (knd := PySem.intKind _ _) (enc := PyData.int) (xs := []) (by rfl) lF'w lN'w (by k_mem) (by k_asm) (by k_asm) (fun _ _ h => Value.isInt_shape h) (by rfl) ?_); clear lF'w lN'w; intro i'w l1'w; (try k_lt l1'w))
  k_with "M And" => (k_here; (exact ⟨by first | rfl | exact decide_eq_false (by omega), _, rfl⟩))
  k_with "M exec For Tuple Call cons nil" => (k_here; (rename Fr _ _ _ _ => lF'w); (with_unfolding_all refine' For_turns lF'w ?_; k_whole))
  k_with "M kts_caught" => first | exact PutAt.same (by assumption) | assumption | (refine Eq.trans (PutAt.other (by assumption) _ (by decide)) ?_; k_extra "M kts_caught")
  k_with "M getAttr ref" => (k_here; k_dflt (refine' get_own ?zzk1 ?zzk2 ?zzk3 ?zzk4 ?zzk5 ?zzk6 ?zzk7 ?zzk8 ?zzk9 ?_; (case zzk1 => k_asm); (case zzk2 => k_asm); (case zzk3 => k_inst); (case zzk4 => k_is); (case zzk5 => k_is); (case zzk6 => k_is); (case zzk7 => k_is); (case zzk8 => kts_caught); (case zzk9 => k_handed); k_whole))
  k_with "M setAttr ref" => (k_here; k_dflt (refine' set_abs ?zzk1 ?zzk2 ?zzk3 ?zzk4 ?zzk5 ?zzk6 ?zzk7 ?zzk8 ?zzk9 ?zzk10 ?zzk12 ?zzk13 ?_; (case zzk1 => k_asm); (case zzk2 => k_asm); (case zzk3 => k_asm); (case zzk4 => k_inst); (case zzk5 => exact rfl); (case zzk6 => k_is); (case zzk7 => k_is); (case zzk8 => k_is); (case zzk9 => k_is); (case zzk10 => kts_caught); (case zzk12 => k_updF); (case zzk13 => assumption); k_whole); intro h'w es'w n'w F'w N'w P'w z'w; (try dsimp only at N'w))
  trivial

theorem work_62_6 {w : World} {f c' : Addr} {qual : Str} {params : Arguments} {body : Expr} {scope : Scope} {pos : Pos} {pm ctv : Value} {vsc : Array Value} {oc : Obj} {t1 : Tok} {cw : Addr} {ow : Obj} {W dW : Addr} {esW : List DictEntry} {nW : Nat} {nst : Int} {tws twm : Tok}
  (hlam : (lamsOf 62)[6]? = some (.Lambda params body scope pos)) (hoc : oc.data = .fields vsc) (hoq : vsc[1]? = some (.str qual t1))
  (hdworld : ow.data = .cell (some (.ref W)))
  (gSt : getL "steps" esW = some (some (.int nst tws)))
  (gMs : getL "most_steps" esW = some (some (.int 0 twm)))
  (hst : 0 ≤ nst)
  (hlW : esW.length ≤ 1000)
  (na : ¬ f = dW) (nb : ¬ c' = dW) (nc : ¬ cw = dW) (nd : ¬ W = dW) :
  WorkK w f "ST" [(f, kla_obj "<lambda>" qual params body scope [("world", cw)] pm c' ctv), (c', oc), (cw, ow), (W, instObj 386 dW), (dW, dictOf esW nW)] (fun ls' => ∃ es' n' ts, PutAt "steps" (.int (nst + 1) ts) esW es' ∧ es'.length ≤ 1000 ∧ ls' = [(f, kla_obj "<lambda>" qual params body scope [("world", cw)] pm c' ctv), (c', oc), (cw, ow), (W, instObj 386 dW), (dW, dictOf es' n')]) := by
  intro eL base h₀ outer cn cs L a ccd cl m mg mb p loose mean s Q E B F X T hck N hE
  have hhd : (callerA.deeper eL).handled = none := rfl
  revert X; k_fill; intro X
  rw [show (lamsOf 62)[6]? = some (.Lambda _ _ _ _) from rfl] at hlam
  cases hlam
  refine wpAny_call ?_
  refine' kla_code (env := envX cn cs L a ccd cl) (outer := outer) B F X N T (Around.frames_deeper B.stack) rfl hck (by k_mem) (codeRec_news N (by k_mem) hoc hoq) ?k8 rfl ?kB ?_ ?c2 ?c3 ?c4 ?c5
  case k8 => k_room
  case kB => exact locs rfl
  case c2 => exact rfl
  case c3 => exact rfl
  case c4 => exact rfl
  case c5 => decide
  intro g' L' h' FG' F' N' B' X' T'
  clear N F
  k_fold
  k_steps
  all_goals first | exact hE _ _ _ _ _ _ _ ⟨_, _, _, by assumption, by assumption, rfl⟩ FG' (raisedB_sub (by assumption) (fun q hq => by repeat (first | exact hq | refine List.mem_cons_of_mem _ ?_))) (by assumption) | (exfalso; omega) | (exfalso; (have z9 : (1 * 2 ^ ((16 : Int) - 1).toNat : Int) = 32768 := by decide); omega)
end
section
open PySem.Calls PySem.Spec PyProof.Rows.LCg
theorem w_V_it_0 : True := by
  k_with_none
  k_with "M kts_caught" => first | exact PutAt.same (by assumption) | assumption | (refine Eq.trans (PutAt.other (by assumption) _ (by decide)) ?_; k_extra "M kts_caught")
  trivial

theorem item_62_6 {w : World} {W C : Addr} {own : List (Addr × Obj)} {f c' : Addr} {qual : Str} {params : Arguments} {body : Expr} {scope : Scope} {pos : Pos} {pm ctv : Value} {vsc : Array Value} {oc : Obj} {t1 : Tok} {cw : Addr} {ow : Obj}
  (hlam : (lamsOf 62)[6]? = some (.Lambda params body scope pos)) (mf : (f, kla_obj "<lambda>" qual params body scope [("world", cw)] pm c' ctv) ∈ own) (mc : (c', oc) ∈ own) (hoc : oc.data = .fields vsc) (hoq : vsc[1]? = some (.str qual t1))
  (mworld : (cw, ow) ∈ own) (hdworld : ow.data = .cell (some (.ref W))) : WK w W C own f "ST" := by
  intro dW dC dO dF dA PL rest X hs esW nW esC nC hw hc
  obtain ⟨nst, tws, gSt, hst⟩ := hw.st
  obtain ⟨twm, gMs⟩ := hw.ms
  have hlW := hw.len
  have na : ¬ f = dW := X.ne _ (hs _ mf)
  have nb : ¬ c' = dW := X.ne _ (hs _ mc)
  have nc : ¬ cw = dW := X.ne _ (hs _ mworld)
  have nd := X.nW
  refine ⟨_, _, work_62_6 (f := f) (c' := c') (qual := qual) (params := params) (body := body) (scope := scope) (pos := pos) (pm := pm) (ctv := ctv) (vsc := vsc) (oc := oc) (t1 := t1) (cw := cw) (ow := ow) (W := W) (dW := dW) (esW := esW) (nW := nW) (nst := nst) (tws := tws) (twm := twm) (hlam := hlam) (hoc := hoc) (hoq := hoq) (hdworld := hdworld) (gSt := gSt) (gMs := gMs) (hst := hst) (hlW := hlW) (na := na) (nb := nb) (nc := nc) (nd := nd), ?_, ?_⟩
  · intro q hq
    simp only [List.mem_cons, List.not_mem_nil, or_false] at hq
    rcases hq with rfl | rfl | rfl | rfl | rfl <;> first | exact .head _ | exact .tail _ (.head _) | exact .tail _ (.tail _ (.head _)) | exact .tail _ (.tail _ (.tail _ (.head _))) | exact .tail _ (.tail _ (.tail _ (.tail _ (by assumption)))) | exact .tail _ (.tail _ (.tail _ (.tail _ (hs _ (by assumption)))))
  · rintro ls' ⟨es', n', ts, hp, hl, rfl⟩
    refine ⟨es', n', ⟨(PutAt.other hp _ (by decide)).trans hw.op, (PutAt.other hp _ (by decide)).trans hw.fi, (PutAt.other hp _ (by decide)).trans hw.ar, ⟨_, _, PutAt.same hp, by omega⟩, ⟨_, (PutAt.other hp _ (by decide)).trans gMs⟩, (PutAt.other hp _ (by decide)).trans hw.ih, ?_, ?_, ?_, hl⟩, .inl (by repeat (first | exact .head _ | refine .tail _ ?_)), ?_⟩
    · exact ⟨_, (PutAt.other hp _ (by decide)).trans hw.ha.choose_spec⟩
    · exact ⟨_, (PutAt.other hp _ (by decide)).trans hw.ec.choose_spec⟩
    · exact ⟨_, (PutAt.other hp _ (by decide)).trans hw.el.choose_spec⟩
    · intro q hq hn
      simp only [List.mem_cons, List.not_mem_nil, or_false] at hq
      rcases hq with rfl | rfl | rfl | rfl | rfl <;> first | exact absurd rfl hn | (repeat (first | exact .head _ | refine .tail _ ?_))
end
section
open PySem.Calls PySem.Spec PyProof.Rows.LCg
theorem w_V_fi_0 : True := by
  k_with_none
  k_with "M k_room" => ((try simp only [depth_mark, depth_under_make, depth_under_kw, depth_in1, depth_deeper]); exact Nat.lt_of_lt_of_le (m := 900) (by decide) (by decide))
  k_with "M exec Raise some none" => (k_here; (with_reducible show wpAny _ _ (exec (Stmt.Raise (some (Expr.Call (Expr.Name ("BasicError" : Str) _) _ [] _)) none _) _) _ _ _); k_dflt (refine' raise_K ?zzF ?zzX ?zzh ?_; (case zzF => k_asm); (case zzX => k_asm); (case zzh => first | rfl | assumption); k_whole))
  k_with "M call ref" => (k_here; k_dflt (refine wpAny_call ?_; refine' code_defC ?zzk1 ?zzk2 ?zzk3 ?zzk4 ?zzk5 ?zzkA ?zzkF ?zzkK ?zzk6 ?zzk7 ?zzk8 ?zzk9 ?zzkB ?zzkD ?_ ?zzc2 ?zzc3 ?zzc4; (case zzkA => exact Around.frames_deeper (Below.stack (by assumption))); (case zzkF => exact rfl); (case zzkK => exact rfl); (case zzk1 => k_asm); (case zzk2 => k_asm); (case zzk3 => k_asm); (case zzk4 => k_asm); (case zzk5 => k_asm); (case zzk6 => k_is); (case zzk7 => k_is); (case zzk8 => k_room); (case zzk9 => first | exact BindsTo.of_eq rfl | exact binds_K (by k_in) rfl (by k_is) rfl rfl rfl | fail "k_enter: no rule for these arguments"); (case zzkB => exact rfl); (case zzkD => decide +kernel); (case zzc2 => exact rfl); (case zzc3 => exact rfl); (case zzc4 => exact rfl); k_whole; intro g'w L'w h'w tk'w cells'w FG'w F'w N'w Y'w B'w X'w T'w l1'w; (try k_lt l1'w); k_cells Y'w; (try simp only [List.cons_append, List.nil_append] at N'w); (try dsimp only); (try k_lift B'w); (try k_fold)))
  k_with "M call ref" => (k_here; k_dflt (refine wpAny_call ?_; refine' code_def ?zzk1 ?zzk2 ?zzk3 ?zzk4 ?zzk5 ?zzkA ?zzkF ?zzkK ?zzk6 ?zzk7 ?zzk8 ?zzk9 ?zzkB ?_ ?zzc2 ?zzc3 ?zzc4 ?zzc5; (case zzkA => exact Around.frames_deeper (Below.stack (by assumption))); (case zzkF => exact rfl); (case zzkK => exact rfl); (case zzk1 => k_asm); (case zzk2 => k_asm); (case zzk3 => k_asm); (case zzk4 => k_asm); (case zzk5 => k_asm); (case zzk6 => k_is); (case zzk7 => k_is); (case zzk8 => k_room); (case zzk9 => first | exact BindsTo.of_eq rfl | exact binds_K (by k_in) rfl (by k_is) rfl rfl rfl | fail "k_enter: no rule for these arguments"); (case zzc5 => decide); (case zzkB => exact locs rfl); (case zzc2 => exact rfl); (case zzc3 => exact rfl); (case zzc4 => exact rfl); k_whole; intro g'w L'w h'w FG'w F'w N'w B'w X'w T'w; (try dsimp only); (try k_lift B'w); (try k_fold)))
  k_with "M call ref" => (k_here; (with_reducible show wpAny _ _ (call (Value.ref 34) _) _ _ _); k_dflt (refine' bx_make ?zzF ?zzX ?zzT ?zzr ?zzl ?_; (case zzF => k_asm); (case zzX => k_asm); (case zzT => k_asm); (case zzr => k_room); (case zzl => first | exact Nat.zero_le _ | exact Nat.le_refl _); k_whole); intro h'w tk'w e'w dx'w mb'w)
  k_with "M RaisesB" => (k_dflt (refine' raisesB_K ?zzF ?zzM ?_; (case zzF => k_asm); (case zzM => assumption); k_whole))
  k_with "M leaving ref" => (k_here; first
  | (refine' leave_newB ?zzk1 ?zzk0 ?zzk2 ?zzk3 ?zzkf ?zzkk ?_; (case zzk0 => assumption); (case zzk1 => assumption); (case zzk2 => assumption); (case zzk3 => k_asm); (case zzkf => rfl); (case zzkk => rfl); k_whole; intro h'w R'w U'w; (try dsimp only at R'w U'w ⊢))
  | (refine' leave_onB ?zzk1 ?zzk2 ?zzk3 ?zzk4 ?zzkf ?_; (case zzk3 => assumption); (case zzk1 => assumption); (case zzk4 => assumption); (case zzk2 => assumption); (case zzkf => rfl); k_whole; intro h'w R'w U'w; (try dsimp only at R'w U'w ⊢)))
  k_with "M getAttr ref" => (k_here; k_dflt (refine' get_own ?zzk1 ?zzk2 ?zzk3 ?zzk4 ?zzk5 ?zzk6 ?zzk7 ?zzk8 ?zzk9 ?_; (case zzk1 => k_asm); (case zzk2 => k_asm); (case zzk3 => k_inst); (case zzk4 => k_is); (case zzk5 => k_is); (case zzk6 => k_is); (case zzk7 => k_is); (case zzk8 => assumption); (case zzk9 => k_handed); k_whole))
  k_with "M eval Name" => (k_here; kc_free; k_dflt (refine' nameX_F ?zzN ?zzc ?zzm ?zzd ?_ ?zza ?zzb; (case zza => rfl); (case zzb => rfl); (case zzN => k_asm); (case zzc => rfl); (case zzm => k_mem); (case zzd => assumption); k_whole))
  k_with "M compareOp In int ref" => (k_here; k_dflt (refine kda_in (knd := PySem.intKind _ _) (by k_asm) (by k_mem) (by k_asm) (by k_asm) (intKind_is _ _ _ _) false (not_three (by omega) (by omega) (by omega)) ?_))
  k_with "M compareOp NotIn int ref" => (k_here; k_dflt (refine kdg_notin (knd := PySem.intKind _ _) (by k_asm) (by k_mem) (by k_asm) (by k_asm) (intKind_is _ _ _ _) false (not_three (by omega) (by omega) (by omega)) ?_))
  k_with "M exec For Name Attribute cons nil" => (k_here; (rename Fr _ _ _ _ => lF'w); (with_unfolding_all refine' For_turns lF'w ?_; k_whole))
  k_with "M pyIter ref" => (k_here; (with_reducible show wpAny _ _ (pyIter (Value.ref _)) (fun it s₂ => TurnsAt _ _ _ _ _ _ _ _ _ it s₂) _ _); (rename Fr _ _ _ _ => lF'w); (rename News _ _ _ _ => lN'w); (with_unfolding_all first
  | refine kta_keys (knd := PySem.intKind _ _) (enc := PyData.int) (xs := [Itm.tok (fun t => Value.int 1 t), Itm.tok (fun t => Value.int 2 t), Itm.tok (fun t => Value.int 3 t)]) (by rfl) lF'w lN'w (by k_mem) (by k_asm) (by k_asm) (fun _ _ h => Value.isInt_shape h) (by rfl) ?_
  | refine kta_keys (knd := PySem.intKind _ _) (enc := PyData.int) (xs := [Itm.tok (fun t => Value.int 1 t), Itm.tok (fun t => Value.int 2 t)]) (by rfl) lF'w lN'w (by k_mem) (by k_asm) (by k_asm) (fun _ _ h => Value.isInt_shape h) (by rfl) ?_
  | refine kta_keys (knd := PySem.intKind _ _) (enc := PyData.int) (xs := [Itm.tok (fun t => Value.int 1 t)]) (by rfl) lF'w lN'w (by k_mem) (by k_asm) (by k_asm) (fun _ _ h => Value.isInt_shape h) (by rfl) ?_
  | refine kta_keys (knd := PySem.intKind _ _) (enc := PyData.int) (xs := []) (by rfl) lF'w lN'w (by k_mem) (by k_asm) (by k_asm) (fun _ _ h => Value.isInt_shape h) (by rfl) ?_); clear lF'w lN'w; intro i'w l1'w; (try k_lt l1'w))
  k_with "M And" => (k_here; (exact ⟨by first | rfl | exact decide_eq_false (by omega), _, rfl⟩))
  k_with "M exec For Tuple Call cons nil" => (k_here; (rename Fr _ _ _ _ => lF'w); (with_unfolding_all refine' For_turns lF'w ?_; k_whole))
  k_with "M kts_caught" => first | exact PutAt.same (by assumption) | assumption | (refine Eq.trans (PutAt.other (by assumption) _ (by decide)) ?_; k_extra "M kts_caught")
  k_with "M getAttr ref" => (k_here; k_dflt (refine' get_own ?zzk1 ?zzk2 ?zzk3 ?zzk4 ?zzk5 ?zzk6 ?zzk7 ?zzk8 ?zzk9 ?_; (case zzk1 => k_asm); (case zzk2 => k_asm); (case zzk3 => k_inst); (case zzk4 => k_is); (case zzk5 => k_is); (case zzk6 => k_is); (case zzk7 => k_is); (case zzk8 => kts_caught); (case zzk9 => k_handed); k_whole))
  k_with "M setAttr ref" => (k_here; k_dflt (refine' set_abs ?zzk1 ?zzk2 ?zzk3 ?zzk4 ?zzk5 ?zzk6 ?zzk7 ?zzk8 ?zzk9 ?zzk10 ?zzk12 ?zzk13 ?_; (case zzk1 => k_asm); (case zzk2 => k_asm); (case zzk3 => k_asm); (case zzk4 => k_inst); (case zzk5 => exact rfl); (case zzk6 => k_is); (case zzk7 => k_is); (case zzk8 => k_is); (case zzk9 => k_is); (case zzk10 => kts_caught); (case zzk12 => k_updF); (case zzk13 => assumption); k_whole); intro h'w es'w n'w F'w N'w P'w z'w; (try dsimp only at N'w))
  k_with "M call ref" => (k_here; (with_reducible show wpAny _ _ (call (Value.ref 404) _) _ _ _); k_dflt (refine' law_next_1 ?zzB ?zzF ?zzX ?zzT rfl rfl ?zzN ?zzUS ?zzmC ?zzhi ?zzhl ?zzk0 ?zzk1 ?zzm0 ?zzm1 ?zzns ?_; (case zzB => assumption); (case zzF => k_asm); (case zzX => k_asm); (case zzT => k_asm); (case zzN => k_asm); (case zzUS => k_updF); (case zzmC => k_mem); (case zzhi => assumption); (case zzhl => assumption); (case zzk0 => decide); (case zzk1 => decide); (case zzm0 => decide); (case zzm1 => decide); (case zzns => assumption); k_whole); intro h'w tk'w r'w t'w t2'w n'w lo'w hi'w F'w N'w; (try dsimp only at N'w))
  k_with "M subscriptTail" => (k_here; (with_reducible show wpAny _ _ (subscriptTail _ _ (Value.ref _) (Value.int _ _)) _ _ _); k_dflt (refine' menu3 ?zzN ?zzm ?zza ?zzb ?_; (case zzN => k_asm); (case zzm => k_mem); (case zza => assumption); (case zzb => assumption)); intro v'w t'w hv'w)
  k_with "M eval List" => ((with_reducible show wpAny _ _ (eval (Expr.List (Expr.Tuple _ _ _ :: _) _) _) _ _ _); refine held ?_)
  trivial

theorem fi_K {w : World} {base h₀ : Heap} {env : Env} {L : Addr} {m mg mb : Str → Option Value} {p : Program} {loose : List Str} {mean : ExcName → Option Value} {s : Shared} {Q E : Value → Shared → Prop} {big : List (Addr × Obj)} {SK CL W C : Addr} {vs : List Value} {ns : List Int} {nSK nCL : Nat} {tk0 : Tok} {g : Obj → List (Addr × Obj)} {g2 : Obj → Obj → List (Addr × Obj)}
  (B : Below callerA base [] h₀) (F : Fr h₀ L s.heap m) (X : (hd.heap_1_39 w.params).In h₀) (T : Top p loose mean mg mb h₀) (hf : env.frame = some L) (hke : env.scope.kind = .function) (hP : CodeHd base 417 413)
  (N : News h₀ L s.heap big) (US : UpdF SK (listOf #[.ref CL, .int 0 tk0] nSK) big g) (UT : ∀ o, UpdF 413 (tabObj #[]) (g o) (g2 o)) (mC : (CL, listOf vs.toArray nCL) ∈ big) (mT : (413, tabObj #[]) ∈ big) (hi : IntsAre vs ns) (hlen : ns.length ≤ 63) (nSC : ¬ @Eq Nat CL SK) (nTS : ¬ @Eq Nat 413 SK) (nTC : ¬ @Eq Nat 413 CL)
  (hQ : ∀ h' tk LST oL nL own its (oP' : Array Value) t' n', Fr h₀ L h' m → News h₀ L h' ((LST, oL) :: (g2 (listOf #[.ref CL, .int (0 + 1 + 1 + 1) t'] n') (tabObj oP') ++ own)) → oL.cls = .type "list" → oL.data = .seq ((its.map (fun i : Addr × Addr × Str => Value.ref i.1)).toArray) nL → (∀ C, ItemsOk w W C own its) → its.map (fun i : Addr × Addr × Str => i.2.2) = [("BM" : Str), ("BM" : Str), ("BM" : Str), ("BN" : Str), ("BN" : Str), ("BN" : Str), ("AO" : Str), ("AO" : Str), ("NM" : Str), ("FF" : Str), ("FF" : Str), ("FC" : Str), ("EF" : Str), ("EF" : Str), ("FO" : Str), ("OM" : Str)] → (∀ q ∈ (LST, oL) :: own, ∀ x ∈ big, ¬ @Eq Nat x.1 q.1) → (∀ q ∈ own, ¬ @Eq Nat q.1 LST) → Q (.ref LST) { s with heap := h', toks := tk }) :
  wpAny (model RW.row.prog w) (callerA.deeper env) (call (.ref 418) [.ref W, .ref SK]) Q E s := by
  have BFN := And.intro F N
  revert X; k_fill; intro X
  refine wpAny_call ?_
  refine' law_defC (ls := [(SK, listOf #[.ref CL, .int 0 tk0] nSK), (CL, listOf vs.toArray nCL), (413, tabObj #[])]) B F X T N ?hsub (Around.frames_deeper B.stack) hf hke ?k6 ?k7 ?k8 ?k9 ?kB ?kD ?_ ?c2 ?c3 ?c4
  case hsub => intro q hq; simp only [List.mem_cons, List.not_mem_nil, or_false] at hq; rcases hq with rfl | rfl | rfl <;> first | exact updF_has US | exact mC | exact mT
  case k6 => k_is
  case k7 => k_is
  case k8 => k_room
  case k9 => exact BindsTo.of_eq rfl
  case kB => exact rfl
  case kD => decide +kernel
  case c2 => exact rfl
  case c3 => exact rfl
  case c4 => exact rfl
  clear F N
  intro g' L' h' tk' cells' hg F' N' Y' B' X' T' l1
  (try k_lt l1)
  k_cells Y'
  (try simp only [List.cons_append, List.nil_append] at N')
  (try dsimp only)
  (try k_fold)
  have hLS : ∀ q ∈ [(SK, listOf #[.ref CL, .int 0 tk0] nSK), (CL, listOf vs.toArray nCL), (413, tabObj #[])], q ∈ big := by
    intro q hq; simp only [List.mem_cons, List.not_mem_nil, or_false] at hq; rcases hq with rfl | rfl | rfl <;> first | exact updF_has US | exact mC | exact mT
  have fin : ∀ (h9 : Heap) (tk : Nat) (m9 : Str → Option Value) (LST : Addr) (oL : Obj) (nL : Nat) (new : List (Addr × Obj)) (ds : List LamD) (Ts : List Addr) (qual : Str) (oP' : Array Value) (t' : Tok) (n' : Nat) (xsize xfree xfar xworld : Obj), Fr g' L' h9 m9 → News g' L' h9 ((LST, oL) :: ([(L' + 1 + 1 + 1 + 1, xsize), (L' + 1 + 1 + 1, xfree), (L' + 1 + 1, xfar), (L' + 1, xworld)] ++ new ++ [(SK, listOf #[.ref CL, .int (0 + 1 + 1 + 1) t'] n'), (CL, listOf vs.toArray nCL), (413, tabObj oP')])) →
      (∀ q ∈ new, L' < q.1 ∧ q.1 < LST) → L' + 1 + 1 + 1 + 1 < LST → oL.cls = .type "list" → oL.data = .seq (Ts.map Value.ref).toArray nL → LamIts new qual ds Ts → ds.map (·.code) = [("BM" : Str), ("BM" : Str), ("BM" : Str), ("BN" : Str), ("BN" : Str), ("BN" : Str), ("AO" : Str), ("AO" : Str), ("NM" : Str), ("FF" : Str), ("FF" : Str), ("FC" : Str), ("EF" : Str), ("EF" : Str), ("FO" : Str), ("OM" : Str)] → (∀ own : List (Addr × Obj), own = [(L' + 1 + 1 + 1 + 1, xsize), (L' + 1 + 1 + 1, xfree), (L' + 1 + 1, xfar), (L' + 1, xworld)] ++ new → ∀ d ∈ ds, ∀ f9 c' oc vs t pm ctv, (f9, kla_obj "<lambda>" qual d.params d.body d.scope d.clos pm c' ctv) ∈ own → (c', oc) ∈ own → oc.data = .fields vs → vs[1]? = some (.str qual t) → (fun f9 code => ∀ C, WK w W C own f9 code) f9 d.code) →
      LeaveN g' (fun ls' v s' => Fr h₀ L s'.heap m → (∀ q, (q ∈ ls' ∨ (q ∈ big ∧ q.1 ∉ [(SK, listOf #[.ref CL, .int 0 tk0] nSK), (CL, listOf vs.toArray nCL), (413, tabObj #[])].map (·.1))) → s'.heap.get? q.1 = some q.2 ∧ q.1 ≠ L ∧ h₀.get? q.1 = none) → Q v s') (.ref LST) { s with heap := h9, toks := tk } := by
    intro h9 tk m9 LST oL nL new ds Ts qual oP' t' n' xsize xfree xfar xworld F9 N9 hlt hL hc hd hit hcodes hw
    obtain ⟨l1a, l1b, l1c⟩ := l1
    have hL2 : @LT.lt Nat _ _ _ := hL
    generalize hown : [(L' + 1 + 1 + 1 + 1, xsize), (L' + 1 + 1 + 1, xfree), (L' + 1 + 1, xfar), (L' + 1, xworld)] ++ new = own at N9
    obtain ⟨its, e1, e2, e3⟩ := items_of (own' := own) (Wp := fun f9 code => ∀ C, WK w W C own f9 code) (fun q hq => hown ▸ List.mem_append_right _ hq) hit (hw own hown.symm)
    have ltO : ∀ q ∈ own, L' < q.1 ∧ q.1 < LST := by
      intro q hq
      rw [← hown] at hq
      rcases List.mem_append.mp hq with hq | hq
      · simp only [List.mem_cons, List.not_mem_nil, or_false] at hq
        rcases hq with rfl | rfl | rfl | rfl <;> exact ⟨by show @LT.lt Nat _ _ _; omega, by show @LT.lt Nat _ _ _; omega⟩
      · have z := hlt q hq
        exact ⟨z.1, z.2⟩
    have ltL : L' < LST := by show @LT.lt Nat _ _ _; omega
    refine ⟨_, _, _, F9, N9, fun Fh Hq => hQ h9 tk LST oL nL own its oP' t' n' Fh (fun q hq => Hq q ?_) hc ?_ ?_ (e2.trans hcodes) ?_ ?_⟩
    · rcases List.mem_cons.mp hq with rfl | hq
      · exact .inl (.head _)
      rcases List.mem_append.mp hq with hq | hq
      · rcases updF_mem (UT _) q hq with rfl | ⟨hq, nT⟩
        · exact .inl (.tail _ (List.mem_append_right _ (.tail _ (.tail _ (.head _)))))
        rcases updF_mem US q hq with rfl | ⟨hq, nO⟩
        · exact .inl (.tail _ (List.mem_append_right _ (.head _)))
        by_cases hm : q.1 ∈ [(SK, listOf #[.ref CL, .int 0 tk0] nSK), (CL, listOf vs.toArray nCL), (413, tabObj #[])].map (·.1)
        · have hl := listed BFN.2 hLS hq hm
          simp only [List.mem_cons, List.not_mem_nil, or_false] at hl
          rcases hl with rfl | rfl | rfl
          · exact absurd rfl nO
          · exact .inl (.tail _ (List.mem_append_right _ (.tail _ (.head _))))
          · exact absurd rfl nT
        · exact .inr ⟨hq, hm⟩
      · exact .inl (.tail _ (List.mem_append_left _ hq))
    · rw [hd, ← e1, List.map_map]; rfl
    · exact fun C9 i hi => ⟨(e3 i hi).1, (e3 i hi).2.1, (e3 i hi).2.2 C9⟩
    · intro q hq x hx e
      have hqn : L' < q.1 ∧ q ∈ ((LST, oL) :: (own ++ [(SK, listOf #[.ref CL, .int (0 + 1 + 1 + 1) t'] n'), (CL, listOf vs.toArray nCL), (413, tabObj oP')])) := by
        rcases List.mem_cons.mp hq with rfl | hq
        · exact ⟨ltL, .head _⟩
        · exact ⟨(ltO q hq).1, .tail _ (List.mem_append_left _ hq)⟩
      by_cases hm : x.1 ∈ [(SK, listOf #[.ref CL, .int 0 tk0] nSK), (CL, listOf vs.toArray nCL), (413, tabObj #[])].map (·.1)
      · have hl := listed BFN.2 hLS hx hm
        simp only [List.mem_cons, List.not_mem_nil, or_false] at hl
        have hq1 : @LT.lt Nat _ _ _ := hqn.1
        rcases hl with rfl | rfl | rfl <;> (have e2 : @Eq Nat _ _ := e; omega)
      · have z := hg _ _ (BFN.2 x hx).1 hm
        have z2 := (N9 q hqn.2).2.2
        rw [show q.1 = x.1 from e.symm, z] at z2
        cases z2
    · intro q hq e
      exact Nat.ne_of_lt (ltO q hq).2 e
  k_steps
  unfold Held
  refine' disp_list ?F ?N ?T ?C ?cd ?U ?hD ?pw ?hn ?_
  case F => k_asm
  case N => k_asm
  case T => k_asm
  case cd => exact rfl
  case C => kn_code
  case U => k_updF
  case hD => ((repeat (apply Disp.cons'; (exact rfl); (exact rfl))); exact Disp.nil')
  case pw => exact rfl
  case hn => exact Nat.le_of_ble_eq_true rfl
  intro LST oL nL Ts new oP' h9 tk9 F9 N9 hc hd hit hlt hlL
  show LeaveN _ _ (.ref LST) _
  refine' fin h9 tk9 _ LST oL nL new _ Ts _ oP' _ _ _ _ _ _ F9 (pickN N9 ?sub) ?lt ?lL hc hd hit rfl ?hw
  case sub =>
    simp only [List.cons_append, List.nil_append]
    refine List.forall_mem_cons.mpr ⟨.head _, ?_⟩
    refine List.forall_mem_cons.mpr ⟨by (repeat (first | exact .head _ | refine .tail _ ?_)), ?_⟩
    refine List.forall_mem_cons.mpr ⟨by (repeat (first | exact .head _ | refine .tail _ ?_)), ?_⟩
    refine List.forall_mem_cons.mpr ⟨by (repeat (first | exact .head _ | refine .tail _ ?_)), ?_⟩
    refine List.forall_mem_cons.mpr ⟨by (repeat (first | exact .head _ | refine .tail _ ?_)), ?_⟩
    intro q hq
    rcases List.mem_append.mp hq with hq | hq
    · repeat (first | exact hq | refine .tail _ ?_)
    · simp only [List.mem_cons, List.not_mem_nil, or_false] at hq
      rcases hq with rfl | rfl | rfl <;> (repeat (first | exact .head _ | refine .tail _ ?_))
  case lt => exact fun q hq => ⟨Nat.lt_of_succ_lt (hlt q hq (L' + 1, _) (by k_mem)), hlL.2 q hq⟩
  case lL => exact hlL.1 (L' + 1 + 1 + 1 + 1, _) (by k_mem)
  case hw =>
    intro own hown
    subst hown
    refine List.forall_mem_cons.mpr ⟨fun f9 c9 oc9 vs9 t9 pm9 ctv9 a1 a2 a3 a4 => fun C9 => item_61_0 (hlam := rfl) (mf := a1) (mc := a2) (hoc := a3) (hoq := a4) (mworld := by (repeat (first | exact .head _ | refine .tail _ ?_))) (hdworld := by with_unfolding_all assumption), ?_⟩
    refine List.forall_mem_cons.mpr ⟨fun f9 c9 oc9 vs9 t9 pm9 ctv9 a1 a2 a3 a4 => fun C9 => item_61_1 (hlam := rfl) (mf := a1) (mc := a2) (hoc := a3) (hoq := a4) (mworld := by (repeat (first | exact .head _ | refine .tail _ ?_))) (hdworld := by with_unfolding_all assumption), ?_⟩
    refine List.forall_mem_cons.mpr ⟨fun f9 c9 oc9 vs9 t9 pm9 ctv9 a1 a2 a3 a4 => fun C9 => item_61_2 (hlam := rfl) (mf := a1) (mc := a2) (hoc := a3) (hoq := a4) (mworld := by (repeat (first | exact .head _ | refine .tail _ ?_))) (hdworld := by with_unfolding_all assumption), ?_⟩
    refine List.forall_mem_cons.mpr ⟨fun f9 c9 oc9 vs9 t9 pm9 ctv9 a1 a2 a3 a4 => fun C9 => item_61_3 (hlam := rfl) (mf := a1) (mc := a2) (hoc := a3) (hoq := a4) (mfree := by (repeat (first | exact .head _ | refine .tail _ ?_))) (hdfree := by with_unfolding_all assumption) (hfr := by first | assumption | exact ⟨by omega, by omega⟩) (mworld := by (repeat (first | exact .head _ | refine .tail _ ?_))) (hdworld := by with_unfolding_all assumption), ?_⟩
    refine List.forall_mem_cons.mpr ⟨fun f9 c9 oc9 vs9 t9 pm9 ctv9 a1 a2 a3 a4 => fun C9 => item_61_4 (hlam := rfl) (mf := a1) (mc := a2) (hoc := a3) (hoq := a4) (mfar := by (repeat (first | exact .head _ | refine .tail _ ?_))) (hdfar := by with_unfolding_all assumption) (hfar := by first | assumption | exact ⟨by omega, by omega⟩) (mworld := by (repeat (first | exact .head _ | refine .tail _ ?_))) (hdworld := by with_unfolding_all assumption), ?_⟩
    refine List.forall_mem_cons.mpr ⟨fun f9 c9 oc9 vs9 t9 pm9 ctv9 a1 a2 a3 a4 => fun C9 => item_61_5 (hlam := rfl) (mf := a1) (mc := a2) (hoc := a3) (hoq := a4) (mworld := by (repeat (first | exact .head _ | refine .tail _ ?_))) (hdworld := by with_unfolding_all assumption), ?_⟩
    refine List.forall_mem_cons.mpr ⟨fun f9 c9 oc9 vs9 t9 pm9 ctv9 a1 a2 a3 a4 => fun C9 => item_61_6 (hlam := rfl) (mf := a1) (mc := a2) (hoc := a3) (hoq := a4) (mworld := by (repeat (first | exact .head _ | refine .tail _ ?_))) (hdworld := by with_unfolding_all assumption), ?_⟩
    refine List.forall_mem_cons.mpr ⟨fun f9 c9 oc9 vs9 t9 pm9 ctv9 a1 a2 a3 a4 => fun C9 => item_61_7 (hlam := rfl) (mf := a1) (mc := a2) (hoc := a3) (hoq := a4) (mworld := by (repeat (first | exact .head _ | refine .tail _ ?_))) (hdworld := by with_unfolding_all assumption), ?_⟩
    refine List.forall_mem_cons.mpr ⟨fun f9 c9 oc9 vs9 t9 pm9 ctv9 a1 a2 a3 a4 => fun C9 => item_61_8 (hlam := rfl) (mf := a1) (mc := a2) (hoc := a3) (hoq := a4) (mfree := by (repeat (first | exact .head _ | refine .tail _ ?_))) (hdfree := by with_unfolding_all assumption) (hfr := by first | assumption | exact ⟨by omega, by omega⟩) (mworld := by (repeat (first | exact .head _ | refine .tail _ ?_))) (hdworld := by with_unfolding_all assumption), ?_⟩
    refine List.forall_mem_cons.mpr ⟨fun f9 c9 oc9 vs9 t9 pm9 ctv9 a1 a2 a3 a4 => fun C9 => item_61_9 (hlam := rfl) (mf := a1) (mc := a2) (hoc := a3) (hoq := a4) (mfree := by (repeat (first | exact .head _ | refine .tail _ ?_))) (hdfree := by with_unfolding_all assumption) (hfr := by first | assumption | exact ⟨by omega, by omega⟩) (mworld := by (repeat (first | exact .head _ | refine .tail _ ?_))) (hdworld := by with_unfolding_all assumption), ?_⟩
    refine List.forall_mem_cons.mpr ⟨fun f9 c9 oc9 vs9 t9 pm9 ctv9 a1 a2 a3 a4 => fun C9 => item_61_10 (hlam := rfl) (mf := a1) (mc := a2) (hoc := a3) (hoq := a4) (mworld := by (repeat (first | exact .head _ | refine .tail _ ?_))) (hdworld := by with_unfolding_all assumption), ?_⟩
    refine List.forall_mem_cons.mpr ⟨fun f9 c9 oc9 vs9 t9 pm9 ctv9 a1 a2 a3 a4 => fun C9 => item_61_11 (hlam := rfl) (mf := a1) (mc := a2) (hoc := a3) (hoq := a4) (mfree := by (repeat (first | exact .head _ | refine .tail _ ?_))) (hdfree := by with_unfolding_all assumption) (hfr := by first | assumption | exact ⟨by omega, by omega⟩) (msize := by (repeat (first | exact .head _ | refine .tail _ ?_))) (hdsize := by with_unfolding_all assumption) (hsz := by first | assumption | exact ⟨by omega, by omega⟩) (mworld := by (repeat (first | exact .head _ | refine .tail _ ?_))) (hdworld := by with_unfolding_all assumption), ?_⟩
    refine List.forall_mem_cons.mpr ⟨fun f9 c9 oc9 vs9 t9 pm9 ctv9 a1 a2 a3 a4 => fun C9 => item_61_12 (hlam := rfl) (mf := a1) (mc := a2) (hoc := a3) (hoq := a4) (mworld := by (repeat (first | exact .head _ | refine .tail _ ?_))) (hdworld := by with_unfolding_all assumption), ?_⟩
    refine List.forall_mem_cons.mpr ⟨fun f9 c9 oc9 vs9 t9 pm9 ctv9 a1 a2 a3 a4 => fun C9 => item_61_13 (hlam := rfl) (mf := a1) (mc := a2) (hoc := a3) (hoq := a4) (msize := by (repeat (first | exact .head _ | refine .tail _ ?_))) (hdsize := by with_unfolding_all assumption) (hsz := by first | assumption | exact ⟨by omega, by omega⟩) (mworld := by (repeat (first | exact .head _ | refine .tail _ ?_))) (hdworld := by with_unfolding_all assumption), ?_⟩
    refine List.forall_mem_cons.mpr ⟨fun f9 c9 oc9 vs9 t9 pm9 ctv9 a1 a2 a3 a4 => fun C9 => item_61_14 (hlam := rfl) (mf := a1) (mc := a2) (hoc := a3) (hoq := a4) (msize := by (repeat (first | exact .head _ | refine .tail _ ?_))) (hdsize := by with_unfolding_all assumption) (hsz := by first | assumption | exact ⟨by omega, by omega⟩) (mworld := by (repeat (first | exact .head _ | refine .tail _ ?_))) (hdworld := by with_unfolding_all assumption), ?_⟩
    refine List.forall_mem_cons.mpr ⟨fun f9 c9 oc9 vs9 t9 pm9 ctv9 a1 a2 a3 a4 => fun C9 => item_61_15 (hlam := rfl) (mf := a1) (mc := a2) (hoc := a3) (hoq := a4) (msize := by (repeat (first | exact .head _ | refine .tail _ ?_))) (hdsize := by with_unfolding_all assumption) (hsz := by first | assumption | exact ⟨by omega, by omega⟩) (mworld := by (repeat (first | exact .head _ | refine .tail _ ?_))) (hdworld := by with_unfolding_all assumption), ?_⟩
    exact List.forall_mem_nil _
end
section
open PySem.Calls PySem.Spec PyProof.Rows.LCg
theorem w_V_ot_0 : True := by
  k_with_none
  k_with "M k_room" => ((try simp only [depth_mark, depth_under_make, depth_under_kw, depth_in1, depth_deeper]); exact Nat.lt_of_lt_of_le (m := 900) (by decide) (by decide))
  k_with "M exec Raise some none" => (k_here; (with_reducible show wpAny _ _ (exec (Stmt.Raise (some (Expr.Call (Expr.Name ("BasicError" : Str) _) _ [] _)) none _) _) _ _ _); k_dflt (refine' raise_K ?zzF ?zzX ?zzh ?_; (case zzF => k_asm); (case zzX => k_asm); (case zzh => first | rfl | assumption); k_whole))
  k_with "M call ref" => (k_here; k_dflt (refine wpAny_call ?_; refine' code_defC ?zzk1 ?zzk2 ?zzk3 ?zzk4 ?zzk5 ?zzkA ?zzkF ?zzkK ?zzk6 ?zzk7 ?zzk8 ?zzk9 ?zzkB ?zzkD ?_ ?zzc2 ?zzc3 ?zzc4; (case zzkA => exact Around.frames_deeper (Below.stack (by assumption))); (case zzkF => exact rfl); (case zzkK => exact rfl); (case zzk1 => k_asm); (case zzk2 => k_asm); (case zzk3 => k_asm); (case zzk4 => k_asm); (case zzk5 => k_asm); (case zzk6 => k_is); (case zzk7 => k_is); (case zzk8 => k_room); (case zzk9 => first | exact BindsTo.of_eq rfl | exact binds_K (by k_in) rfl (by k_is) rfl rfl rfl | fail "k_enter: no rule for these arguments"); (case zzkB => exact rfl); (case zzkD => decide +kernel); (case zzc2 => exact rfl); (case zzc3 => exact rfl); (case zzc4 => exact rfl); k_whole; intro g'w L'w h'w tk'w cells'w FG'w F'w N'w Y'w B'w X'w T'w l1'w; (try k_lt l1'w); k_cells Y'w; (try simp only [List.cons_append, List.nil_append] at N'w); (try dsimp only); (try k_lift B'w); (try k_fold)))
  k_with "M call ref" => (k_here; k_dflt (refine wpAny_call ?_; refine' code_def ?zzk1 ?zzk2 ?zzk3 ?zzk4 ?zzk5 ?zzkA ?zzkF ?zzkK ?zzk6 ?zzk7 ?zzk8 ?zzk9 ?zzkB ?_ ?zzc2 ?zzc3 ?zzc4 ?zzc5; (case zzkA => exact Around.frames_deeper (Below.stack (by assumption))); (case zzkF => exact rfl); (case zzkK => exact rfl); (case zzk1 => k_asm); (case zzk2 => k_asm); (case zzk3 => k_asm); (case zzk4 => k_asm); (case zzk5 => k_asm); (case zzk6 => k_is); (case zzk7 => k_is); (case zzk8 => k_room); (case zzk9 => first | exact BindsTo.of_eq rfl | exact binds_K (by k_in) rfl (by k_is) rfl rfl rfl | fail "k_enter: no rule for these arguments"); (case zzc5 => decide); (case zzkB => exact locs rfl); (case zzc2 => exact rfl); (case zzc3 => exact rfl); (case zzc4 => exact rfl); k_whole; intro g'w L'w h'w FG'w F'w N'w B'w X'w T'w; (try dsimp only); (try k_lift B'w); (try k_fold)))
  k_with "M call ref" => (k_here; (with_reducible show wpAny _ _ (call (Value.ref 34) _) _ _ _); k_dflt (refine' bx_make ?zzF ?zzX ?zzT ?zzr ?zzl ?_; (case zzF => k_asm); (case zzX => k_asm); (case zzT => k_asm); (case zzr => k_room); (case zzl => first | exact Nat.zero_le _ | exact Nat.le_refl _); k_whole); intro h'w tk'w e'w dx'w mb'w)
  k_with "M RaisesB" => (k_dflt (refine' raisesB_K ?zzF ?zzM ?_; (case zzF => k_asm); (case zzM => assumption); k_whole))
  k_with "M leaving ref" => (k_here; first
  | (refine' leave_newB ?zzk1 ?zzk0 ?zzk2 ?zzk3 ?zzkf ?zzkk ?_; (case zzk0 => assumption); (case zzk1 => assumption); (case zzk2 => assumption); (case zzk3 => k_asm); (case zzkf => rfl); (case zzkk => rfl); k_whole; intro h'w R'w U'w; (try dsimp only at R'w U'w ⊢))
  | (refine' leave_onB ?zzk1 ?zzk2 ?zzk3 ?zzk4 ?zzkf ?_; (case zzk3 => assumption); (case zzk1 => assumption); (case zzk4 => assumption); (case zzk2 => assumption); (case zzkf => rfl); k_whole; intro h'w R'w U'w; (try dsimp only at R'w U'w ⊢)))
  k_with "M getAttr ref" => (k_here; k_dflt (refine' get_own ?zzk1 ?zzk2 ?zzk3 ?zzk4 ?zzk5 ?zzk6 ?zzk7 ?zzk8 ?zzk9 ?_; (case zzk1 => k_asm); (case zzk2 => k_asm); (case zzk3 => k_inst); (case zzk4 => k_is); (case zzk5 => k_is); (case zzk6 => k_is); (case zzk7 => k_is); (case zzk8 => assumption); (case zzk9 => k_handed); k_whole))
  k_with "M eval Name" => (k_here; kc_free; k_dflt (refine' nameX_F ?zzN ?zzc ?zzm ?zzd ?_ ?zza ?zzb; (case zza => rfl); (case zzb => rfl); (case zzN => k_asm); (case zzc => rfl); (case zzm => k_mem); (case zzd => assumption); k_whole))
  k_with "M compareOp In int ref" => (k_here; k_dflt (refine kda_in (knd := PySem.intKind _ _) (by k_asm) (by k_mem) (by k_asm) (by k_asm) (intKind_is _ _ _ _) false (not_three (by omega) (by omega) (by omega)) ?_))
  k_with "M compareOp NotIn int ref" => (k_here; k_dflt (refine kdg_notin (knd := PySem.intKind _ _) (by k_asm) (by k_mem) (by k_asm) (by k_asm) (intKind_is _ _ _ _) false (not_three (by omega) (by omega) (by omega)) ?_))
  k_with "M exec For Name Attribute cons nil" => (k_here; (rename Fr _ _ _ _ => lF'w); (with_unfolding_all refine' For_turns lF'w ?_; k_whole))
  k_with "M pyIter ref" => (k_here; (with_reducible show wpAny _ _ (pyIter (Value.ref _)) (fun it s₂ => TurnsAt _ _ _ _ _ _ _ _ _ it s₂) _ _); (rename Fr _ _ _ _ => lF'w); (rename News _ _ _ _ => lN'w); (with_unfolding_all first
  | refine kta_keys (knd := PySem.intKind _ _) (enc := PyData.int) (xs := [Itm.tok (fun t => Value.int 1 t), Itm.tok (fun t => Value.int 2 t), Itm.tok (fun t => Value.int 3 t)]) (by rfl) lF'w lN'w (by k_mem) (by k_asm) (by k_asm) (fun _ _ h => Value.isInt_shape h) (by rfl) ?_
  | refine kta_keys (knd := PySem.intKind _ _) (enc := PyData.int) (xs := [Itm.tok (fun t => Value.int 1 t), Itm.tok (fun t => Value.int 2 t)]) (by rfl) lF'w lN'w (by k_mem) (by k_asm) (by k_asm) (fun _ _ h => Value.isInt_shape h) (by rfl) ?_
  | refine kta_keys (knd := PySem.intKind _ _) (enc := PyData.int) (xs := [Itm.tok (fun t => Value.int 1 t)]) (by rfl) lF'w lN'w (by k_mem) (by k_asm) (by k_asm) (fun _ _ h => Value.isInt_shape h) (by rfl) ?_
  | refine kta_keys (knd := PySem.intKind _ _) (enc := PyData.int) (xs := []) (by rfl) lF'w lN'w (by k_mem) (by k_asm) (by k_asm) (fun _ _ h => Value.isInt_shape h) (by rfl) ?_); clear lF'w lN'w; intro i'w l1'w; (try k_lt l1'w))
  k_with "M And" => (k_here; (exact ⟨by first | rfl | exact decide_eq_false (by omega), _, rfl⟩))
  k_with "M exec For Tuple Call cons nil" => (k_here; (rename Fr _ _ _ _ => lF'w); (with_unfolding_all refine' For_turns lF'w ?_; k_whole))
  k_with "M kts_caught" => first | exact PutAt.same (by assumption) | assumption | (refine Eq.trans (PutAt.other (by assumption) _ (by decide)) ?_; k_extra "M kts_caught")
  k_with "M getAttr ref" => (k_here; k_dflt (refine' get_own ?zzk1 ?zzk2 ?zzk3 ?zzk4 ?zzk5 ?zzk6 ?zzk7 ?zzk8 ?zzk9 ?_; (case zzk1 => k_asm); (case zzk2 => k_asm); (case zzk3 => k_inst); (case zzk4 => k_is); (case zzk5 => k_is); (case zzk6 => k_is); (case zzk7 => k_is); (case zzk8 => kts_caught); (case zzk9 => k_handed); k_whole))
  k_with "M setAttr ref" => (k_here; k_dflt (refine' set_abs ?zzk1 ?zzk2 ?zzk3 ?zzk4 ?zzk5 ?zzk6 ?zzk7 ?zzk8 ?zzk9 ?zzk10 ?zzk12 ?zzk13 ?_; (case zzk1 => k_asm); (case zzk2 => k_asm); (case zzk3 => k_asm); (case zzk4 => k_inst); (case zzk5 => exact rfl); (case zzk6 => k_is); (case zzk7 => k_is); (case zzk8 => k_is); (case zzk9 => k_is); (case zzk10 => kts_caught); (case zzk12 => k_updF); (case zzk13 => assumption); k_whole); intro h'w es'w n'w F'w N'w P'w z'w; (try dsimp only at N'w))
  k_with "M call ref" => (k_here; (with_reducible show wpAny _ _ (call (Value.ref 404) _) _ _ _); k_dflt (refine' law_next_1 ?zzB ?zzF ?zzX ?zzT rfl rfl ?zzN ?zzUS ?zzmC ?zzhi ?zzhl ?zzk0 ?zzk1 ?zzm0 ?zzm1 ?zzns ?_; (case zzB => assumption); (case zzF => k_asm); (case zzX => k_asm); (case zzT => k_asm); (case zzN => k_asm); (case zzUS => k_updF); (case zzmC => k_mem); (case zzhi => assumption); (case zzhl => assumption); (case zzk0 => decide); (case zzk1 => decide); (case zzm0 => decide); (case zzm1 => decide); (case zzns => assumption); k_whole); intro h'w tk'w r'w t'w t2'w n'w lo'w hi'w F'w N'w; (try dsimp only at N'w))
  k_with "M subscriptTail" => (k_here; (with_reducible show wpAny _ _ (subscriptTail _ _ (Value.ref _) (Value.int _ _)) _ _ _); k_dflt (refine' menu3 ?zzN ?zzm ?zza ?zzb ?_; (case zzN => k_asm); (case zzm => k_mem); (case zza => assumption); (case zzb => assumption)); intro v'w t'w hv'w)
  k_with "M eval List" => ((with_reducible show wpAny _ _ (eval (Expr.List (Expr.Tuple _ _ _ :: _) _) _) _ _ _); refine held ?_)
  trivial

theorem ot_K {w : World} {base h₀ : Heap} {env : Env} {L : Addr} {m mg mb : Str → Option Value} {p : Program} {loose : List Str} {mean : ExcName → Option Value} {s : Shared} {Q E : Value → Shared → Prop} {big : List (Addr × Obj)} {SK CL W C : Addr} {vs : List Value} {ns : List Int} {nSK nCL : Nat} {tk0 : Tok} {g : Obj → List (Addr × Obj)} {g2 : Obj → Obj → List (Addr × Obj)}
  (B : Below callerA base [] h₀) (F : Fr h₀ L s.heap m) (X : (hd.heap_1_39 w.params).In h₀) (T : Top p loose mean mg mb h₀) (hf : env.frame = some L) (hke : env.scope.kind = .function) (hP : CodeHd base 424 420)
  (N : News h₀ L s.heap big) (US : UpdF SK (listOf #[.ref CL, .int (0 + 1 + 1 + 1) tk0] nSK) big g) (UT : ∀ o, UpdF 420 (tabObj #[]) (g o) (g2 o)) (mC : (CL, listOf vs.toArray nCL) ∈ big) (mT : (420, tabObj #[]) ∈ big) (hi : IntsAre vs ns) (hlen : ns.length ≤ 63) (nSC : ¬ @Eq Nat CL SK) (nTS : ¬ @Eq Nat 420 SK) (nTC : ¬ @Eq Nat 420 CL)
  (hQ : ∀ h' tk LST oL nL own its (oP' : Array Value) t' n', Fr h₀ L h' m → News h₀ L h' ((LST, oL) :: (g2 (listOf #[.ref CL, .int (0 + 1 + 1 + 1 + 1) t'] n') (tabObj oP') ++ own)) → oL.cls = .type "list" → oL.data = .seq ((its.map (fun i : Addr × Addr × Str => Value.ref i.1)).toArray) nL → ItemsOk w W C own its → its.map (fun i : Addr × Addr × Str => i.2.2) = [("DD" : Str), ("BS" : Str), ("SN" : Str), ("TM" : Str), ("LS" : Str), ("OV" : Str), ("ST" : Str), ("NF" : Str), ("WE" : Str), ("RG" : Str), ("RW" : Str), ("FC" : Str)] → (∀ q ∈ (LST, oL) :: own, ∀ x ∈ big, ¬ @Eq Nat x.1 q.1) → (∀ q ∈ own, ¬ @Eq Nat q.1 LST) → Q (.ref LST) { s with heap := h', toks := tk }) :
  wpAny (model RW.row.prog w) (callerA.deeper env) (call (.ref 425) [.ref W, .ref C, .ref SK]) Q E s := by
  have BFN := And.intro F N
  revert X; k_fill; intro X
  refine wpAny_call ?_
  refine' law_defC (ls := [(SK, listOf #[.ref CL, .int (0 + 1 + 1 + 1) tk0] nSK), (CL, listOf vs.toArray nCL), (420, tabObj #[])]) B F X T N ?hsub (Around.frames_deeper B.stack) hf hke ?k6 ?k7 ?k8 ?k9 ?kB ?kD ?_ ?c2 ?c3 ?c4
  case hsub => intro q hq; simp only [List.mem_cons, List.not_mem_nil, or_false] at hq; rcases hq with rfl | rfl | rfl <;> first | exact updF_has US | exact mC | exact mT
  case k6 => k_is
  case k7 => k_is
  case k8 => k_room
  case k9 => exact BindsTo.of_eq rfl
  case kB => exact rfl
  case kD => decide +kernel
  case c2 => exact rfl
  case c3 => exact rfl
  case c4 => exact rfl
  clear F N
  intro g' L' h' tk' cells' hg F' N' Y' B' X' T' l1
  (try k_lt l1)
  k_cells Y'
  (try simp only [List.cons_append, List.nil_append] at N')
  (try dsimp only)
  (try k_fold)
  have hLS : ∀ q ∈ [(SK, listOf #[.ref CL, .int (0 + 1 + 1 + 1) tk0] nSK), (CL, listOf vs.toArray nCL), (420, tabObj #[])], q ∈ big := by
    intro q hq; simp only [List.mem_cons, List.not_mem_nil, or_false] at hq; rcases hq with rfl | rfl | rfl <;> first | exact updF_has US | exact mC | exact mT
  have fin : ∀ (h9 : Heap) (tk : Nat) (m9 : Str → Option Value) (LST : Addr) (oL : Obj) (nL : Nat) (new : List (Addr × Obj)) (ds : List LamD) (Ts : List Addr) (qual : Str) (oP' : Array Value) (t' : Tok) (n' : Nat) (xmore xcontrol xworld : Obj), Fr g' L' h9 m9 → News g' L' h9 ((LST, oL) :: ([(L' + 1 + 1 + 1, xmore), (L' + 1 + 1, xcontrol), (L' + 1, xworld)] ++ new ++ [(SK, listOf #[.ref CL, .int (0 + 1 + 1 + 1 + 1) t'] n'), (CL, listOf vs.toArray nCL), (420, tabObj oP')])) →
      (∀ q ∈ new, L' < q.1 ∧ q.1 < LST) → L' + 1 + 1 + 1 < LST → oL.cls = .type "list" → oL.data = .seq (Ts.map Value.ref).toArray nL → LamIts new qual ds Ts → ds.map (·.code) = [("DD" : Str), ("BS" : Str), ("SN" : Str), ("TM" : Str), ("LS" : Str), ("OV" : Str), ("ST" : Str), ("NF" : Str), ("WE" : Str), ("RG" : Str), ("RW" : Str), ("FC" : Str)] → (∀ own : List (Addr × Obj), own = [(L' + 1 + 1 + 1, xmore), (L' + 1 + 1, xcontrol), (L' + 1, xworld)] ++ new → ∀ d ∈ ds, ∀ f9 c' oc vs t pm ctv, (f9, kla_obj "<lambda>" qual d.params d.body d.scope d.clos pm c' ctv) ∈ own → (c', oc) ∈ own → oc.data = .fields vs → vs[1]? = some (.str qual t) → (fun f9 code => WK w W C own f9 code) f9 d.code) →
      LeaveN g' (fun ls' v s' => Fr h₀ L s'.heap m → (∀ q, (q ∈ ls' ∨ (q ∈ big ∧ q.1 ∉ [(SK, listOf #[.ref CL, .int (0 + 1 + 1 + 1) tk0] nSK), (CL, listOf vs.toArray nCL), (420, tabObj #[])].map (·.1))) → s'.heap.get? q.1 = some q.2 ∧ q.1 ≠ L ∧ h₀.get? q.1 = none) → Q v s') (.ref LST) { s with heap := h9, toks := tk } := by
    intro h9 tk m9 LST oL nL new ds Ts qual oP' t' n' xmore xcontrol xworld F9 N9 hlt hL hc hd hit hcodes hw
    obtain ⟨l1a, l1b, l1c⟩ := l1
    have hL2 : @LT.lt Nat _ _ _ := hL
    generalize hown : [(L' + 1 + 1 + 1, xmore), (L' + 1 + 1, xcontrol), (L' + 1, xworld)] ++ new = own at N9
    obtain ⟨its, e1, e2, e3⟩ := items_of (own' := own) (Wp := fun f9 code => WK w W C own f9 code) (fun q hq => hown ▸ List.mem_append_right _ hq) hit (hw own hown.symm)
    have ltO : ∀ q ∈ own, L' < q.1 ∧ q.1 < LST := by
      intro q hq
      rw [← hown] at hq
      rcases List.mem_append.mp hq with hq | hq
      · simp only [List.mem_cons, List.not_mem_nil, or_false] at hq
        rcases hq with rfl | rfl | rfl <;> exact ⟨by show @LT.lt Nat _ _ _; omega, by show @LT.lt Nat _ _ _; omega⟩
      · have z := hlt q hq
        exact ⟨z.1, z.2⟩
    have ltL : L' < LST := by show @LT.lt Nat _ _ _; omega
    refine ⟨_, _, _, F9, N9, fun Fh Hq => hQ h9 tk LST oL nL own its oP' t' n' Fh (fun q hq => Hq q ?_) hc ?_ ?_ (e2.trans hcodes) ?_ ?_⟩
    · rcases List.mem_cons.mp hq with rfl | hq
      · exact .inl (.head _)
      rcases List.mem_append.mp hq with hq | hq
      · rcases updF_mem (UT _) q hq with rfl | ⟨hq, nT⟩
        · exact .inl (.tail _ (List.mem_append_right _ (.tail _ (.tail _ (.head _)))))
        rcases updF_mem US q hq with rfl | ⟨hq, nO⟩
        · exact .inl (.tail _ (List.mem_append_right _ (.head _)))
        by_cases hm : q.1 ∈ [(SK, listOf #[.ref CL, .int (0 + 1 + 1 + 1) tk0] nSK), (CL, listOf vs.toArray nCL), (420, tabObj #[])].map (·.1)
        · have hl := listed BFN.2 hLS hq hm
          simp only [List.mem_cons, List.not_mem_nil, or_false] at hl
          rcases hl with rfl | rfl | rfl
          · exact absurd rfl nO
          · exact .inl (.tail _ (List.mem_append_right _ (.tail _ (.head _))))
          · exact absurd rfl nT
        · exact .inr ⟨hq, hm⟩
      · exact .inl (.tail _ (List.mem_append_left _ hq))
    · rw [hd, ← e1, List.map_map]; rfl
    · exact fun i hi => ⟨(e3 i hi).1, (e3 i hi).2.1, (e3 i hi).2.2⟩
    · intro q hq x hx e
      have hqn : L' < q.1 ∧ q ∈ ((LST, oL) :: (own ++ [(SK, listOf #[.ref CL, .int (0 + 1 + 1 + 1 + 1) t'] n'), (CL, listOf vs.toArray nCL), (420, tabObj oP')])) := by
        rcases List.mem_cons.mp hq with rfl | hq
        · exact ⟨ltL, .head _⟩
        · exact ⟨(ltO q hq).1, .tail _ (List.mem_append_left _ hq)⟩
      by_cases hm : x.1 ∈ [(SK, listOf #[.ref CL, .int (0 + 1 + 1 + 1) tk0] nSK), (CL, listOf vs.toArray nCL), (420, tabObj #[])].map (·.1)
      · have hl := listed BFN.2 hLS hx hm
        simp only [List.mem_cons, List.not_mem_nil, or_false] at hl
        have hq1 : @LT.lt Nat _ _ _ := hqn.1
        rcases hl with rfl | rfl | rfl <;> (have e2 : @Eq Nat _ _ := e; omega)
      · have z := hg _ _ (BFN.2 x hx).1 hm
        have z2 := (N9 q hqn.2).2.2
        rw [show q.1 = x.1 from e.symm, z] at z2
        cases z2
    · intro q hq e
      exact Nat.ne_of_lt (ltO q hq).2 e
  k_steps
  unfold Held
  refine' disp_list ?F ?N ?T ?C ?cd ?U ?hD ?pw ?hn ?_
  case F => k_asm
  case N => k_asm
  case T => k_asm
  case cd => exact rfl
  case C => kn_code
  case U => k_updF
  case hD => ((repeat (apply Disp.cons'; (exact rfl); (exact rfl))); exact Disp.nil')
  case pw => exact rfl
  case hn => exact Nat.le_of_ble_eq_true rfl
  intro LST oL nL Ts new oP' h9 tk9 F9 N9 hc hd hit hlt hlL
  show LeaveN _ _ (.ref LST) _
  refine' fin h9 tk9 _ LST oL nL new _ Ts _ oP' _ _ _ _ _ F9 (pickN N9 ?sub) ?lt ?lL hc hd hit rfl ?hw
  case sub =>
    simp only [List.cons_append, List.nil_append]
    refine List.forall_mem_cons.mpr ⟨.head _, ?_⟩
    refine List.forall_mem_cons.mpr ⟨by (repeat (first | exact .head _ | refine .tail _ ?_)), ?_⟩
    refine List.forall_mem_cons.mpr ⟨by (repeat (first | exact .head _ | refine .tail _ ?_)), ?_⟩
    refine List.forall_mem_cons.mpr ⟨by (repeat (first | exact .head _ | refine .tail _ ?_)), ?_⟩
    intro q hq
    rcases List.mem_append.mp hq with hq | hq
    · repeat (first | exact hq | refine .tail _ ?_)
    · simp only [List.mem_cons, List.not_mem_nil, or_false] at hq
      rcases hq with rfl | rfl | rfl <;> (repeat (first | exact .head _ | refine .tail _ ?_))
  case lt => exact fun q hq => ⟨Nat.lt_of_succ_lt (hlt q hq (L' + 1, _) (by k_mem)), hlL.2 q hq⟩
  case lL => exact hlL.1 (L' + 1 + 1 + 1, _) (by k_mem)
  case hw =>
    intro own hown
    subst hown
    refine List.forall_mem_cons.mpr ⟨fun f9 c9 oc9 vs9 t9 pm9 ctv9 a1 a2 a3 a4 => item_62_0 (hlam := rfl) (mf := a1) (mc := a2) (hoc := a3) (hoq := a4) (mmore := by (repeat (first | exact .head _ | refine .tail _ ?_))) (hdmore := by with_unfolding_all assumption) (hmore := by first | assumption | exact ⟨by omega, by omega⟩) (mworld := by (repeat (first | exact .head _ | refine .tail _ ?_))) (hdworld := by with_unfolding_all assumption), ?_⟩
    refine List.forall_mem_cons.mpr ⟨fun f9 c9 oc9 vs9 t9 pm9 ctv9 a1 a2 a3 a4 => item_62_1 (hlam := rfl) (mf := a1) (mc := a2) (hoc := a3) (hoq := a4) (mmore := by (repeat (first | exact .head _ | refine .tail _ ?_))) (hdmore := by with_unfolding_all assumption) (hmore := by first | assumption | exact ⟨by omega, by omega⟩) (mworld := by (repeat (first | exact .head _ | refine .tail _ ?_))) (hdworld := by with_unfolding_all assumption), ?_⟩
    refine List.forall_mem_cons.mpr ⟨fun f9 c9 oc9 vs9 t9 pm9 ctv9 a1 a2 a3 a4 => item_62_2 (hlam := rfl) (mf := a1) (mc := a2) (hoc := a3) (hoq := a4) (mworld := by (repeat (first | exact .head _ | refine .tail _ ?_))) (hdworld := by with_unfolding_all assumption), ?_⟩
    refine List.forall_mem_cons.mpr ⟨fun f9 c9 oc9 vs9 t9 pm9 ctv9 a1 a2 a3 a4 => item_62_3 (hlam := rfl) (mf := a1) (mc := a2) (hoc := a3) (hoq := a4) (mmore := by (repeat (first | exact .head _ | refine .tail _ ?_))) (hdmore := by with_unfolding_all assumption) (hmore := by first | assumption | exact ⟨by omega, by omega⟩), ?_⟩
    refine List.forall_mem_cons.mpr ⟨fun f9 c9 oc9 vs9 t9 pm9 ctv9 a1 a2 a3 a4 => item_62_4 (hlam := rfl) (mf := a1) (mc := a2) (hoc := a3) (hoq := a4) (mmore := by (repeat (first | exact .head _ | refine .tail _ ?_))) (hdmore := by with_unfolding_all assumption) (hmore := by first | assumption | exact ⟨by omega, by omega⟩), ?_⟩
    refine List.forall_mem_cons.mpr ⟨fun f9 c9 oc9 vs9 t9 pm9 ctv9 a1 a2 a3 a4 => item_62_5 (hlam := rfl) (mf := a1) (mc := a2) (hoc := a3) (hoq := a4) (mmore := by (repeat (first | exact .head _ | refine .tail _ ?_))) (hdmore := by with_unfolding_all assumption) (hmore := by first | assumption | exact ⟨by omega, by omega⟩), ?_⟩
    refine List.forall_mem_cons.mpr ⟨fun f9 c9 oc9 vs9 t9 pm9 ctv9 a1 a2 a3 a4 => item_62_6 (hlam := rfl) (mf := a1) (mc := a2) (hoc := a3) (hoq := a4) (mworld := by (repeat (first | exact .head _ | refine .tail _ ?_))) (hdworld := by with_unfolding_all assumption), ?_⟩
    refine List.forall_mem_cons.mpr ⟨fun f9 c9 oc9 vs9 t9 pm9 ctv9 a1 a2 a3 a4 => item_62_7 (hlam := rfl) (mf := a1) (mc := a2) (hoc := a3) (hoq := a4) (mcontrol := by (repeat (first | exact .head _ | refine .tail _ ?_))) (hdcontrol := by with_unfolding_all assumption), ?_⟩
    refine List.forall_mem_cons.mpr ⟨fun f9 c9 oc9 vs9 t9 pm9 ctv9 a1 a2 a3 a4 => item_62_8 (hlam := rfl) (mf := a1) (mc := a2) (hoc := a3) (hoq := a4) (mcontrol := by (repeat (first | exact .head _ | refine .tail _ ?_))) (hdcontrol := by with_unfolding_all assumption), ?_⟩
    refine List.forall_mem_cons.mpr ⟨fun f9 c9 oc9 vs9 t9 pm9 ctv9 a1 a2 a3 a4 => item_62_9 (hlam := rfl) (mf := a1) (mc := a2) (hoc := a3) (hoq := a4) (mcontrol := by (repeat (first | exact .head _ | refine .tail _ ?_))) (hdcontrol := by with_unfolding_all assumption), ?_⟩
    refine List.forall_mem_cons.mpr ⟨fun f9 c9 oc9 vs9 t9 pm9 ctv9 a1 a2 a3 a4 => item_62_10 (hlam := rfl) (mf := a1) (mc := a2) (hoc := a3) (hoq := a4) (mcontrol := by (repeat (first | exact .head _ | refine .tail _ ?_))) (hdcontrol := by with_unfolding_all assumption) (mworld := by (repeat (first | exact .head _ | refine .tail _ ?_))) (hdworld := by with_unfolding_all assumption), ?_⟩
    refine List.forall_mem_cons.mpr ⟨fun f9 c9 oc9 vs9 t9 pm9 ctv9 a1 a2 a3 a4 => item_62_11 (hlam := rfl) (mf := a1) (mc := a2) (hoc := a3) (hoq := a4) (mmore := by (repeat (first | exact .head _ | refine .tail _ ?_))) (hdmore := by with_unfolding_all assumption) (hmore := by first | assumption | exact ⟨by omega, by omega⟩), ?_⟩
    exact List.forall_mem_nil _
end
section
theorem w_V_lp : True := by
  k_with_none
  trivial
open PySem.Calls PySem.Spec PyProof.Rows.LCg

def codeNum (c : Str) : Int := ((codesL.findIdx (· == c) : Nat) : Int) + 1
theorem codeNum_is {c : Str} (h : c ∈ codesL) : IsCode (codeNum c) c := by
  refine ⟨_, rfl, ?_⟩
  have hlt : codesL.findIdx (· == c) < codesL.length := List.findIdx_lt_length_of_exists ⟨c, h, by simp⟩
  have := List.findIdx_getElem (w := hlt)
  rw [List.getElem?_eq_getElem hlt]
  exact congrArg some (eq_of_beq this)
theorem stored_len {kvs : List (Int × Value)} {k : Int} {v : Value} : (stored kvs k v).length ≤ kvs.length + 1 := by
  unfold stored
  split
  · simp
  · simp
def Mid (I : Addr) (AL : List Addr) (rest : List (Addr × Obj)) (q : Str) (mid : List (Addr × Obj)) : Prop :=
  mid = [(432, tabObj #[])] ∨ ∃ c1 c2 oc1 oc2 vs1 vs2 u1 u2, mid = [(432, tab2 c1 c2), (c1, oc1), (c2, oc2)] ∧ oc1.data = .fields vs1 ∧ vs1[1]? = some (.str q u1) ∧ oc2.data = .fields vs2 ∧ vs2[1]? = some (.str q u2) ∧ (∀ b ∈ I :: AL, b < c1) ∧ (∀ p ∈ rest, p.1 < c1) ∧ c1 < c2
structure LSt (w : World) (q : Str) (I cN cW cK W dW C dC K dO dF dA PL : Addr) (oW oKc : Obj) (rest : List (Addr × Obj)) (m₀ : Str → Option Value) (keys : List Int) (count : Nat) (m : Str → Option Value) (news : List (Addr × Obj)) : Prop where
  ex : ∃ mid oN v0 esW nW esC nC oK kvs, Mid I [432, cN, cW, cK, W, dW, C, dC, K] rest q mid ∧ news = mid ++ ((cN, oN) :: (cW, oW) :: (cK, oKc) :: (W, instObj 386 dW) :: (dW, dictOf esW nW) :: (C, instObj 138 dC) :: (dC, dictOf esC nC) :: (K, oK) :: rest) ∧
    oN.data = .cell v0 ∧ WF dO dF dA esW ∧ CF PL esC ∧ oK.IsDictOf (PySem.intKind RW.row.prog w) kvs ∧ KV kvs ∧ kvs.map (·.1) = keys ∧ kvs.length ≤ count
  ms : ∀ y : Str, y ≠ ("work" : Str) → y ≠ ("code" : Str) → m y = m₀ y
theorem nodup_two {I c1 c2 : Addr} {AL : List Addr} (hn : (I :: 432 :: AL).Nodup) (h1 : ∀ b ∈ I :: 432 :: AL, b < c1) (h2 : c1 < c2) : (I :: 432 :: c1 :: c2 :: AL).Nodup := by
  simp only [List.nodup_cons, List.mem_cons, not_or] at hn ⊢
  have lt2 : ∀ b ∈ I :: 432 :: AL, b < c2 := fun b hb => Nat.lt_trans (h1 b hb) h2
  have ne1 : ∀ b ∈ I :: 432 :: AL, b ≠ c1 := fun b hb => Nat.ne_of_lt (h1 b hb)
  have ne2 : ∀ b ∈ I :: 432 :: AL, b ≠ c2 := fun b hb => Nat.ne_of_lt (lt2 b hb)
  refine ⟨⟨hn.1.1, ne1 _ (.head _), ne2 _ (.head _), hn.1.2⟩, ⟨ne1 _ (.tail _ (.head _)), ne2 _ (.tail _ (.head _)), hn.2.1⟩, ⟨Nat.ne_of_lt h2, fun h => ne1 _ (.tail _ (.tail _ h)) rfl⟩, fun h => ne2 _ (.tail _ (.tail _ h)) rfl, hn.2.2⟩
theorem off_two {I c1 c2 : Addr} {AL : List Addr} {rest : List (Addr × Obj)} (hoff : OwnOff rest (I :: 432 :: AL)) (h1 : ∀ p ∈ rest, p.1 < c1) (h2 : c1 < c2) : OwnOff rest (I :: 432 :: c1 :: c2 :: AL) := by
  intro p hp b hb
  rcases List.mem_cons.mp hb with rfl | hb
  · exact hoff p hp _ (.head _)
  rcases List.mem_cons.mp hb with rfl | hb
  · exact hoff p hp _ (.tail _ (.head _))
  rcases List.mem_cons.mp hb with rfl | hb
  · exact Nat.ne_of_lt (h1 p hp)
  rcases List.mem_cons.mp hb with rfl | hb
  · exact Nat.ne_of_lt (Nat.lt_trans (h1 p hp) h2)
  · exact hoff p hp b (.tail _ (.tail _ hb))
theorem loop_rest {w : World} {sc : Scope} {tgt iter : Expr} {body : List Stmt} {fpos : Pos} {h₀ : Heap} {L a : Addr} {cN cW cK I W dW C dC K dO dF dA PL ax : Addr} {m₀ mg mb : Str → Option Value} {p : Program} {loose : List Str} {mean : ExcName → Option Value} {s : Shared} {Q : Flow → Shared → Prop} {E : Value → Shared → Prop}
  {oW oKc lo : Obj} {rest : List (Addr × Obj)}
  (hfor : lawFor = some (tgt, iter, body, fpos)) (hsc : lawScope = some sc)
  (B : Below callerA h₀ [] h₀) (X : (hd.heap_1_39 w.params).In h₀) (T : Top p loose mean mg mb h₀) (hP : CodeHd h₀ 434 432)
  (hmC : m₀ "control" = some (.ref C)) (hoW : oW.data = .cell (some (.ref W))) (hoK : oKc.data = .cell (some (.ref K))) (loK : (K == sysModules) = false)
  (hx : CX w W dW C dC dO dF dA PL rest) (hax : (ax, lo) ∈ rest)
  (hoff : OwnOff rest [I, 432, cN, cW, cK, W, dW, C, dC, K]) (hnd : ([I, 432, cN, cW, cK, W, dW, C, dC, K] : List Addr).Nodup) :
  ∀ (todo : List (Addr × Addr × Str)) (keys : List Int) (count : Nat) (m : Str → Option Value) (news : List (Addr × Obj)), (∀ i ∈ todo, ItOK w W C rest i ∧ i.2.2 ∈ codesL) → LSt w ((envX "law" sc L a (.ref 434) [("world", cW), ("number", cN), ("known", cK)]).qual ++ "<lambda>") I cN cW cK W dW C dC K dO dF dA PL oW oKc rest m₀ keys count m news → count + todo.length ≤ 1000 →
    (∀ h tk m' news', Fr h₀ L h m' → News h₀ L h news' → LSt w ((envX "law" sc L a (.ref 434) [("world", cW), ("number", cN), ("known", cK)]).qual ++ "<lambda>") I cN cW cK W dW C dC K dO dF dA PL oW oKc rest m₀ ((todo.map fun i => codeNum i.2.2).foldl addKey keys) (count + todo.length) m' news' → Q .next { s with heap := h, toks := tk }) →
    ItemsRest RW.row.prog w (callerA.deeper (envX "law" sc L a (.ref 434) [("world", cW), ("number", cN), ("known", cK)])) E h₀ (envX "law" sc L a (.ref 434) [("world", cW), ("number", cN), ("known", cK)]) tgt body Q s [(I, "list_iterator")] [(ax, lo)] (todo.map fun i => Itm.val (.ref i.1)) m news := by
  intro todo
  induction todo with
  | nil => intro keys count m news _ hst _ hQ; exact ItemsRest.zero fun h tk F N => hQ h tk m news F N hst
  | cons i todo ih =>
    intro keys count m news hits hst hcount hQ
    obtain ⟨⟨mid, oN, v0, esW, nW, esC, nC, oK, kvs, hmid, hnews, hoN, hw, hc, hK, hkv, hkeys, hkl⟩, hms⟩ := hst
    obtain ⟨⟨⟨oT, tc, nt, hT, hTc, hTd⟩, ⟨oc0, od0, fd0, sl0, hfo⟩, hwk⟩, hcl⟩ := hits i (.head _)
    have hmC' : m "control" = some (.ref C) := (hms _ (by decide) (by decide)).trans hmC
    have hitem := hwk dW dC dO dF dA PL rest hx (fun q hq => hq)
    have hck := codeNum_is hcl
    have hl : kvs.length ≤ 1000 := Nat.le_trans hkl (Nat.le_trans (Nat.le_add_right _ _) hcount)
    refine ItemsRest.val fun h tk F => AllObj.cons fun oI hoI => AllObj.nil fun N => ?_
    have hkeys' : ∀ tv, (stored kvs (codeNum i.2.2) (.str i.2.2 tv)).map (·.1) = addKey keys (codeNum i.2.2) := fun tv => by rw [stored_keys, hkeys]
    have hcount' : count + 1 + todo.length ≤ 1000 := by rw [List.length_cons] at hcount; omega
    have ecount : count + 1 + todo.length = count + (i :: todo).length := by rw [List.length_cons]; omega
    have hms' : ∀ m' : Str → Option Value, (∀ y : Str, y ≠ ("work" : Str) → y ≠ ("code" : Str) → m' y = m y) → ∀ y : Str, y ≠ ("work" : Str) → y ≠ ("code" : Str) → m' y = m₀ y := fun m' h y a b => (h y a b).trans (hms y a b)
    have neI : ∀ mid' : List (Addr × Obj), (∀ q ∈ mid', q.1 ≠ I) → ∀ (oN' : Obj) esW' nW' esC' nC' oK', ∀ q ∈ mid' ++ ((cN, oN') :: (cW, oW) :: (cK, oKc) :: (W, instObj 386 dW) :: (dW, dictOf esW' nW') :: (C, instObj 138 dC) :: (dC, dictOf esC' nC') :: (K, oK') :: rest), ∀ x ∈ [(I, oI)], q.1 ≠ x.1 := by
      intro mid' hm oN' esW' nW' esC' nC' oK' q hq x hx'
      rw [List.mem_singleton.mp hx']
      rcases List.mem_append.mp hq with hq | hq
      · exact hm q hq
      · have hnd' := hnd
        simp only [List.nodup_cons, List.mem_cons, List.not_mem_nil, or_false, not_or] at hnd'
        obtain ⟨i0, i1, i2, i3, i4, i5, i6, i7, i8⟩ := hnd'.1
        rcases List.mem_cons.mp hq with rfl | hq
        · exact fun e => i1 e.symm
        rcases List.mem_cons.mp hq with rfl | hq
        · exact fun e => i2 e.symm
        rcases List.mem_cons.mp hq with rfl | hq
        · exact fun e => i3 e.symm
        rcases List.mem_cons.mp hq with rfl | hq
        · exact fun e => i4 e.symm
        rcases List.mem_cons.mp hq with rfl | hq
        · exact fun e => i5 e.symm
        rcases List.mem_cons.mp hq with rfl | hq
        · exact fun e => i6 e.symm
        rcases List.mem_cons.mp hq with rfl | hq
        · exact fun e => i7 e.symm
        rcases List.mem_cons.mp hq with rfl | hq
        · exact fun e => i8 e.symm
        exact hoff q hq I (.head _)
    rcases hmid with rfl | ⟨c1, c2, oc1, oc2, vs1, vs2, u1, u2, rfl, hoc1, hvs1, hoc2, hvs2, hlt1, hlt2, hlt3⟩
    · subst hnews
      refine turn_first (a := a) hfor hsc B F X T hP N hmC' hoW hoN hoK hK loK hkv hl hT hTc hTd hck hw hc hitem hfo hoff hnd ?_
      intro h' tk' m' c1 c2 oc1 oc2 vs1 vs2 u1 u2 oN' tn esW' nW' esC' nC' oK' tv F' hm' N' hoN' hoc1 hvs1 hoc2 hvs2 hlt1 hlt2 hlt3 hw' hc' hK'
      refine ⟨h', tk', m', _, rfl, F', N', neI [(432, tab2 c1 c2), (c1, oc1), (c2, oc2)] (fun q hq => ?_) oN' esW' nW' esC' nC' oK', ⟨(by repeat (first | exact hax | refine List.Mem.tail _ ?_)), trivial⟩, ?_⟩
      · have hnI : ¬ (432 : Addr) = I := fun e => by
          have hnd' := hnd
          simp only [List.nodup_cons, List.mem_cons, not_or] at hnd'
          exact hnd'.1.1 e.symm
        simp only [List.mem_cons, List.not_mem_nil, or_false] at hq
        rcases hq with rfl | rfl | rfl
        · exact hnI
        · exact Nat.ne_of_gt (hlt1 I (.head _))
        · exact Nat.ne_of_gt (Nat.lt_trans (hlt1 I (.head _)) hlt3)
      · refine ih (addKey keys (codeNum i.2.2)) (count + 1) m' _ (fun j hj => hits j (.tail _ hj)) ⟨⟨[(432, tab2 c1 c2), (c1, oc1), (c2, oc2)], oN', _, esW', nW', esC', nC', oK', _, .inr ⟨c1, c2, oc1, oc2, vs1, vs2, u1, u2, rfl, hoc1, hvs1, hoc2, hvs2, hlt1, hlt2, hlt3⟩, rfl, hoN', hw', hc', hK', stored_KV hkv hck, hkeys' tv, Nat.le_trans stored_len (Nat.succ_le_succ hkl)⟩, hms' m' hm'⟩ hcount' ?_
        rw [ecount]
        exact hQ
    · subst hnews
      refine turn_later (a := a) hfor hsc B F X T hP N hmC' hoc1 hvs1 hoc2 hvs2 hoW hoN hoK hK loK hkv hl hT hTc hTd hck hw hc hitem hfo (off_two hoff hlt2 hlt3) (nodup_two hnd hlt1 hlt3) ?_
      intro h' tk' m' oN' tn esW' nW' esC' nC' oK' tv F' hm' N' hoN' hw' hc' hK'
      refine ⟨h', tk', m', _, rfl, F', N', neI [(432, tab2 c1 c2), (c1, oc1), (c2, oc2)] (fun q hq => ?_) oN' esW' nW' esC' nC' oK', ⟨(by repeat (first | exact hax | refine List.Mem.tail _ ?_)), trivial⟩, ?_⟩
      · have hnI : ¬ (432 : Addr) = I := fun e => by
          have hnd' := hnd
          simp only [List.nodup_cons, List.mem_cons, not_or] at hnd'
          exact hnd'.1.1 e.symm
        simp only [List.mem_cons, List.not_mem_nil, or_false] at hq
        rcases hq with rfl | rfl | rfl
        · exact hnI
        · exact Nat.ne_of_gt (hlt1 I (.head _))
        · exact Nat.ne_of_gt (Nat.lt_trans (hlt1 I (.head _)) hlt3)
      · refine ih (addKey keys (codeNum i.2.2)) (count + 1) m' _ (fun j hj => hits j (.tail _ hj)) ⟨⟨[(432, tab2 c1 c2), (c1, oc1), (c2, oc2)], oN', _, esW', nW', esC', nC', oK', _, .inr ⟨c1, c2, oc1, oc2, vs1, vs2, u1, u2, rfl, hoc1, hvs1, hoc2, hvs2, hlt1, hlt2, hlt3⟩, rfl, hoN', hw', hc', hK', stored_KV hkv hck, hkeys' tv, Nat.le_trans stored_len (Nat.succ_le_succ hkl)⟩, hms' m' hm'⟩ hcount' ?_
        rw [ecount]
        exact hQ
end
section
open PySem.Calls PySem.Spec PyProof.Rows.LCg
theorem w_V_un_0 : True := by
  k_with_none
  k_with "M k_room" => ((try simp only [depth_mark, depth_under_make, depth_under_kw, depth_in1, depth_deeper]); exact Nat.lt_of_lt_of_le (m := 900) (by decide) (by decide))
  k_with "M exec Raise some none" => (k_here; (with_reducible show wpAny _ _ (exec (Stmt.Raise (some (Expr.Call (Expr.Name ("BasicError" : Str) _) _ [] _)) none _) _) _ _ _); k_dflt (refine' raise_K ?zzF ?zzX ?zzh ?_; (case zzF => k_asm); (case zzX => k_asm); (case zzh => first | rfl | assumption); k_whole))
  k_with "M call ref" => (k_here; k_dflt (refine wpAny_call ?_; refine' code_defC ?zzk1 ?zzk2 ?zzk3 ?zzk4 ?zzk5 ?zzkA ?zzkF ?zzkK ?zzk6 ?zzk7 ?zzk8 ?zzk9 ?zzkB ?zzkD ?_ ?zzc2 ?zzc3 ?zzc4; (case zzkA => exact Around.frames_deeper (Below.stack (by assumption))); (case zzkF => exact rfl); (case zzkK => exact rfl); (case zzk1 => k_asm); (case zzk2 => k_asm); (case zzk3 => k_asm); (case zzk4 => k_asm); (case zzk5 => k_asm); (case zzk6 => k_is); (case zzk7 => k_is); (case zzk8 => k_room); (case zzk9 => first | exact BindsTo.of_eq rfl | exact binds_K (by k_in) rfl (by k_is) rfl rfl rfl | fail "k_enter: no rule for these arguments"); (case zzkB => exact rfl); (case zzkD => decide +kernel); (case zzc2 => exact rfl); (case zzc3 => exact rfl); (case zzc4 => exact rfl); k_whole; intro g'w L'w h'w tk'w cells'w FG'w F'w N'w Y'w B'w X'w T'w l1'w; (try k_lt l1'w); k_cells Y'w; (try simp only [List.cons_append, List.nil_append] at N'w); (try dsimp only); (try k_lift B'w); (try k_fold)))
  k_with "M call ref" => (k_here; k_dflt (refine wpAny_call ?_; refine' code_def ?zzk1 ?zzk2 ?zzk3 ?zzk4 ?zzk5 ?zzkA ?zzkF ?zzkK ?zzk6 ?zzk7 ?zzk8 ?zzk9 ?zzkB ?_ ?zzc2 ?zzc3 ?zzc4 ?zzc5; (case zzkA => exact Around.frames_deeper (Below.stack (by assumption))); (case zzkF => exact rfl); (case zzkK => exact rfl); (case zzk1 => k_asm); (case zzk2 => k_asm); (case zzk3 => k_asm); (case zzk4 => k_asm); (case zzk5 => k_asm); (case zzk6 => k_is); (case zzk7 => k_is); (case zzk8 => k_room); (case zzk9 => first | exact BindsTo.of_eq rfl | exact binds_K (by k_in) rfl (by k_is) rfl rfl rfl | fail "k_enter: no rule for these arguments"); (case zzc5 => decide); (case zzkB => exact locs rfl); (case zzc2 => exact rfl); (case zzc3 => exact rfl); (case zzc4 => exact rfl); k_whole; intro g'w L'w h'w FG'w F'w N'w B'w X'w T'w; (try dsimp only); (try k_lift B'w); (try k_fold)))
  k_with "M call ref" => (k_here; (with_reducible show wpAny _ _ (call (Value.ref 34) _) _ _ _); k_dflt (refine' bx_make ?zzF ?zzX ?zzT ?zzr ?zzl ?_; (case zzF => k_asm); (case zzX => k_asm); (case zzT => k_asm); (case zzr => k_room); (case zzl => first | exact Nat.zero_le _ | exact Nat.le_refl _); k_whole); intro h'w tk'w e'w dx'w mb'w)
  k_with "M RaisesB" => (k_dflt (refine' raisesB_K ?zzF ?zzM ?_; (case zzF => k_asm); (case zzM => assumption); k_whole))
  k_with "M leaving ref" => (k_here; first
  | (refine' leave_newB ?zzk1 ?zzk0 ?zzk2 ?zzk3 ?zzkf ?zzkk ?_; (case zzk0 => assumption); (case zzk1 => assumption); (case zzk2 => assumption); (case zzk3 => k_asm); (case zzkf => rfl); (case zzkk => rfl); k_whole; intro h'w R'w U'w; (try dsimp only at R'w U'w ⊢))
  | (refine' leave_onB ?zzk1 ?zzk2 ?zzk3 ?zzk4 ?zzkf ?_; (case zzk3 => assumption); (case zzk1 => assumption); (case zzk4 => assumption); (case zzk2 => assumption); (case zzkf => rfl); k_whole; intro h'w R'w U'w; (try dsimp only at R'w U'w ⊢)))
  k_with "M getAttr ref" => (k_here; k_dflt (refine' get_own ?zzk1 ?zzk2 ?zzk3 ?zzk4 ?zzk5 ?zzk6 ?zzk7 ?zzk8 ?zzk9 ?_; (case zzk1 => k_asm); (case zzk2 => k_asm); (case zzk3 => k_inst); (case zzk4 => k_is); (case zzk5 => k_is); (case zzk6 => k_is); (case zzk7 => k_is); (case zzk8 => assumption); (case zzk9 => k_handed); k_whole))
  k_with "M eval Name" => (k_here; kc_free; k_dflt (refine' nameX_F ?zzN ?zzc ?zzm ?zzd ?_ ?zza ?zzb; (case zza => rfl); (case zzb => rfl); (case zzN => k_asm); (case zzc => rfl); (case zzm => k_mem); (case zzd => assumption); k_whole))
  k_with "M compareOp In int ref" => (k_here; k_dflt (refine kda_in (knd := PySem.intKind _ _) (by k_asm) (by k_mem) (by k_asm) (by k_asm) (intKind_is _ _ _ _) false (not_three (by omega) (by omega) (by omega)) ?_))
  k_with "M compareOp NotIn int ref" => (k_here; k_dflt (refine kdg_notin (knd := PySem.intKind _ _) (by k_asm) (by k_mem) (by k_asm) (by k_asm) (intKind_is _ _ _ _) false (not_three (by omega) (by omega) (by omega)) ?_))
  k_with "M exec For Name Attribute cons nil" => (k_here; (rename Fr _ _ _ _ => lF'w); (with_unfolding_all refine' For_turns lF'w ?_; k_whole))
  k_with "M pyIter ref" => (k_here; (with_reducible show wpAny _ _ (pyIter (Value.ref _)) (fun it s₂ => TurnsAt _ _ _ _ _ _ _ _ _ it s₂) _ _); (rename Fr _ _ _ _ => lF'w); (rename News _ _ _ _ => lN'w); (with_unfolding_all first
  | refine kta_keys (knd := PySem.intKind _ _) (enc := PyData.int) (xs := [Itm.tok (fun t => Value.int 1 t), Itm.tok (fun t => Value.int 2 t), Itm.tok (fun t => Value.int 3 t)]) (by rfl) lF'w lN'w (by k_mem) (by k_asm) (by k_asm) (fun _ _ h => Value.isInt_shape h) (by rfl) ?_
  | refine kta_keys (knd := PySem.intKind _ _) (enc := PyData.int) (xs := [Itm.tok (fun t => Value.int 1 t), Itm.tok (fun t => Value.int 2 t)]) (by rfl) lF'w lN'w (by k_mem) (by k_asm) (by k_asm) (fun _ _ h => Value.isInt_shape h) (by rfl) ?_
  | refine kta_keys (knd := PySem.intKind _ _) (enc := PyData.int) (xs := [Itm.tok (fun t => Value.int 1 t)]) (by rfl) lF'w lN'w (by k_mem) (by k_asm) (by k_asm) (fun _ _ h => Value.isInt_shape h) (by rfl) ?_
  | refine kta_keys (knd := PySem.intKind _ _) (enc := PyData.int) (xs := []) (by rfl) lF'w lN'w (by k_mem) (by k_asm) (by k_asm) (fun _ _ h => Value.isInt_shape h) (by rfl) ?_); clear lF'w lN'w; intro i'w l1'w; (try k_lt l1'w))
  k_with "M And" => (k_here; (exact ⟨by first | rfl | exact decide_eq_false (by omega), _, rfl⟩))
  k_with "M exec For Tuple Call cons nil" => (k_here; (rename Fr _ _ _ _ => lF'w); (with_unfolding_all refine' For_turns lF'w ?_; k_whole))
  k_with "M kts_caught" => first | exact PutAt.same (by assumption) | assumption | (refine Eq.trans (PutAt.other (by assumption) _ (by decide)) ?_; k_extra "M kts_caught")
  k_with "M getAttr ref" => (k_here; k_dflt (refine' get_own ?zzk1 ?zzk2 ?zzk3 ?zzk4 ?zzk5 ?zzk6 ?zzk7 ?zzk8 ?zzk9 ?_; (case zzk1 => k_asm); (case zzk2 => k_asm); (case zzk3 => k_inst); (case zzk4 => k_is); (case zzk5 => k_is); (case zzk6 => k_is); (case zzk7 => k_is); (case zzk8 => kts_caught); (case zzk9 => k_handed); k_whole))
  k_with "M setAttr ref" => (k_here; k_dflt (refine' set_abs ?zzk1 ?zzk2 ?zzk3 ?zzk4 ?zzk5 ?zzk6 ?zzk7 ?zzk8 ?zzk9 ?zzk10 ?zzk12 ?zzk13 ?_; (case zzk1 => k_asm); (case zzk2 => k_asm); (case zzk3 => k_asm); (case zzk4 => k_inst); (case zzk5 => exact rfl); (case zzk6 => k_is); (case zzk7 => k_is); (case zzk8 => k_is); (case zzk9 => k_is); (case zzk10 => kts_caught); (case zzk12 => k_updF); (case zzk13 => assumption); k_whole); intro h'w es'w n'w F'w N'w P'w z'w; (try dsimp only at N'w))
  k_with "M eval ListComp" => refine held ?_
  k_with "M call type:enumerate" => refine held ?_
  k_with "M subscriptTail" => ((with_reducible show wpAny _ _ (subscriptTail _ (Expr.Slice _ _ _ _) (Value.ref _) _) _ _ _); refine held ?_)
  trivial

/-- the first of each, of the first i -/
noncomputable def unl (cs : List Str) : Nat → List Str
  | 0 => []
  | i + 1 => match cs[i]? with
    | some c => if (cs.take i).any (· == c) then unl cs i else unl cs i ++ [c]
    | none => unl cs i
theorem unl_len (cs : List Str) : ∀ i, (unl cs i).length ≤ i
  | 0 => Nat.le_refl _
  | i + 1 => by
    unfold unl
    split
    · split
      · exact Nat.le_succ_of_le (unl_len cs i)
      · rw [List.length_append, List.length_singleton]; exact Nat.succ_le_succ (unl_len cs i)
    · exact Nat.le_succ_of_le (unl_len cs i)
theorem strs_at {vs : List Value} {ys : List Str} (h : StrsAre vs ys) {i : Nat} {v : Value} (e : vs[i]? = some v) : ∃ c t, ys[i]? = some c ∧ v = .str c t := by
  have hl := strs_len h
  have hlt : i < vs.length := (List.getElem?_eq_some_iff.mp e).1
  obtain ⟨t, ht⟩ := strs_get h i (ys[i]'(hl ▸ hlt)) (List.getElem?_eq_getElem _)
  rw [e] at ht
  exact ⟨_, t, List.getElem?_eq_getElem _, Option.some.inj ht⟩

theorem unlike_K {w : World} {base h₀ : Heap} {env : Env} {L : Addr} {m mg mb : Str → Option Value} {p : Program} {loose : List Str} {mean : ExcName → Option Value} {s : Shared} {Q E : Value → Shared → Prop} {big : List (Addr × Obj)} {l : Addr} {lo : Obj} {vs : List Value} {cs : List Str} {n : Nat}
  (B : Below callerA base [] h₀) (F : Fr h₀ L s.heap m) (X : (hd.heap_1_39 w.params).In h₀) (T : Top p loose mean mg mb h₀) (hf : env.frame = some L) (hke : env.scope.kind = .function)
  (N : News h₀ L s.heap big) (ml : (l, lo) ∈ big) (hc : lo.cls = .type "list") (hd0 : lo.data = .seq vs.toArray n) (hi : StrsAre vs cs) (hlen : cs.length ≤ 100)
  (hQ : ∀ h' tk D ys, Fr h₀ L h' m → StrsAre ys (unl cs cs.length) → News h₀ L h' ((D, lst ys) :: big) → Q (.ref D) { s with heap := h', toks := tk }) :
  wpAny (model RW.row.prog w) (callerA.deeper env) (call (.ref 430) [.ref l]) Q E s := by
  have BFN := And.intro F N
  revert X; k_fill; intro X
  refine wpAny_call ?_
  refine' law_defC (ls := [(l, lo)]) B F X T N ?hsub (Around.frames_deeper B.stack) hf hke ?k6 ?k7 ?k8 ?k9 ?kB ?kD ?_ ?c2 ?c3 ?c4
  case hsub => intro q hq; simp only [List.mem_cons, List.not_mem_nil, or_false] at hq; rcases hq with rfl; exact ml
  case k6 => k_is
  case k7 => k_is
  case k8 => k_room
  case k9 => exact BindsTo.of_eq rfl
  case kB => exact rfl
  case kD => decide +kernel
  case c2 => exact rfl
  case c3 => exact rfl
  case c4 => exact rfl
  clear F N
  intro g' L' h' tk' cells' hg F' N' Y' B' X' T' l1
  (try k_lt l1)
  k_cells Y'
  (try simp only [List.cons_append, List.nil_append] at N')
  (try dsimp only)
  (try k_fold)
  k_steps
  unfold Held
  rename Fr g' L' _ _ => F1
  rename News g' L' _ _ => N1
  refine comp_genT F1 (by with_unfolding_all rfl) (by decide) (by rfl) (by decide) ?_
  k_steps
  unfold Held
  have hvl : vs.length = cs.length := strs_len hi
  have hz : vs.length ≤ sizeLine := by rw [hvl, sizeLine_eq]; omega
  refine src_enumT (fun i ys => StrsAre ys (unl cs i)) rfl (by assumption) (by assumption) (by k_mem) hc hd0 hz (by rfl) (by rfl) (by decide) (by rfl) .nil (fun i ys h => by rw [strs_len h]; exact unl_len cs i) ?_ ?_
  · intro i v t own C oC mC D ys h tk E' hv b1 b2 hoC hJ F4 N4
    obtain ⟨c, tc, hcs, rfl⟩ := strs_at hi hv
    simp only [List.cons_append, List.nil_append] at N4
    k_steps
    unfold Held
    refine kmk_slice F4 N4 ⟨lo, (N4 (l, lo) (by k_mem)).1, hc, _, hd0⟩ .none (.int _ _) ?_ rfl (fun _ => rfl) (by rw [List.size_toArray]; exact hz)
    intro D2 h5 F5 N5 l5
    rw [slicePick_upto'] at N5
    refine notin_list_strs (vs := vs.take i) (ys := cs.take i) ⟨_, (N5 (D2, _) (.head _)).1, rfl, _, rfl⟩ (StrsAre.take' hi i) ?_
    cases hany : (cs.take i).any (· == c) with
    | true =>
      have eu : unl cs (i + 1) = unl cs i := by rw [unl, hcs]; simp only [hany, if_true]
      k_steps
      simp only [Bool.not_true, Bool.false_eq_true, if_false]
      refine GEnd.intro (by assumption) N5 (fun q hq => .tail _ hq) ?_
      rw [eu]
      exact hJ
    | false =>
      have eu : unl cs (i + 1) = unl cs i ++ [c] := by rw [unl, hcs]; simp only [hany, Bool.false_eq_true, if_false]
      k_steps
      simp only [Bool.not_false, if_true]
      k_steps
      refine GEnd.intro (by assumption) N5 (fun q hq => .tail _ hq) ?_
      rw [eu]
      exact StrsAre.append' hJ (.cons _ _ .nil)
  · intro D h tk ys hJ F4 N4 lt
    show LeaveN _ _ (.ref D) _
    refine ⟨_, _, _, F4, N4, fun Fh Hq => hQ h tk D ys Fh (hvl ▸ hJ) (fun q hq => Hq q ?_)⟩
    rcases List.mem_cons.mp hq with rfl | hq
    · exact .inl (.head _)
    by_cases hm : q.1 ∈ [(l, lo)].map (·.1)
    · have hl := listed BFN.2 (by intro q hq; simp only [List.mem_cons, List.not_mem_nil, or_false] at hq; rcases hq with rfl; exact ml) hq hm
      simp only [List.mem_cons, List.not_mem_nil, or_false] at hl
      rcases hl with rfl
      exact .inl (by k_mem)
    · exact .inr ⟨hq, hm⟩
end
section
open PySem.Calls PySem.Spec PyProof.Rows.LCg
theorem w_V_le_0 : True := by
  k_with_none
  k_with "M k_room" => ((try simp only [depth_mark, depth_under_make, depth_under_kw, depth_in1, depth_deeper]); exact Nat.lt_of_lt_of_le (m := 900) (by decide) (by decide))
  k_with "M exec Raise some none" => (k_here; (with_reducible show wpAny _ _ (exec (Stmt.Raise (some (Expr.Call (Expr.Name ("BasicError" : Str) _) _ [] _)) none _) _) _ _ _); k_dflt (refine' raise_K ?zzF ?zzX ?zzh ?_; (case zzF => k_asm); (case zzX => k_asm); (case zzh => first | rfl | assumption); k_whole))
  k_with "M call ref" => (k_here; k_dflt (refine wpAny_call ?_; refine' code_defC ?zzk1 ?zzk2 ?zzk3 ?zzk4 ?zzk5 ?zzkA ?zzkF ?zzkK ?zzk6 ?zzk7 ?zzk8 ?zzk9 ?zzkB ?zzkD ?_ ?zzc2 ?zzc3 ?zzc4; (case zzkA => exact Around.frames_deeper (Below.stack (by assumption))); (case zzkF => exact rfl); (case zzkK => exact rfl); (case zzk1 => k_asm); (case zzk2 => k_asm); (case zzk3 => k_asm); (case zzk4 => k_asm); (case zzk5 => k_asm); (case zzk6 => k_is); (case zzk7 => k_is); (case zzk8 => k_room); (case zzk9 => first | exact BindsTo.of_eq rfl | exact binds_K (by k_in) rfl (by k_is) rfl rfl rfl | fail "k_enter: no rule for these arguments"); (case zzkB => exact rfl); (case zzkD => decide +kernel); (case zzc2 => exact rfl); (case zzc3 => exact rfl); (case zzc4 => exact rfl); k_whole; intro g'w L'w h'w tk'w cells'w FG'w F'w N'w Y'w B'w X'w T'w l1'w; (try k_lt l1'w); k_cells Y'w; (try simp only [List.cons_append, List.nil_append] at N'w); (try dsimp only); (try k_lift B'w); (try k_fold)))
  k_with "M call ref" => (k_here; k_dflt (refine wpAny_call ?_; refine' code_def ?zzk1 ?zzk2 ?zzk3 ?zzk4 ?zzk5 ?zzkA ?zzkF ?zzkK ?zzk6 ?zzk7 ?zzk8 ?zzk9 ?zzkB ?_ ?zzc2 ?zzc3 ?zzc4 ?zzc5; (case zzkA => exact Around.frames_deeper (Below.stack (by assumption))); (case zzkF => exact rfl); (case zzkK => exact rfl); (case zzk1 => k_asm); (case zzk2 => k_asm); (case zzk3 => k_asm); (case zzk4 => k_asm); (case zzk5 => k_asm); (case zzk6 => k_is); (case zzk7 => k_is); (case zzk8 => k_room); (case zzk9 => first | exact BindsTo.of_eq rfl | exact binds_K (by k_in) rfl (by k_is) rfl rfl rfl | fail "k_enter: no rule for these arguments"); (case zzc5 => decide); (case zzkB => exact locs rfl); (case zzc2 => exact rfl); (case zzc3 => exact rfl); (case zzc4 => exact rfl); k_whole; intro g'w L'w h'w FG'w F'w N'w B'w X'w T'w; (try dsimp only); (try k_lift B'w); (try k_fold)))
  k_with "M call ref" => (k_here; (with_reducible show wpAny _ _ (call (Value.ref 34) _) _ _ _); k_dflt (refine' bx_make ?zzF ?zzX ?zzT ?zzr ?zzl ?_; (case zzF => k_asm); (case zzX => k_asm); (case zzT => k_asm); (case zzr => k_room); (case zzl => first | exact Nat.zero_le _ | exact Nat.le_refl _); k_whole); intro h'w tk'w e'w dx'w mb'w)
  k_with "M RaisesB" => (k_dflt (refine' raisesB_K ?zzF ?zzM ?_; (case zzF => k_asm); (case zzM => assumption); k_whole))
  k_with "M leaving ref" => (k_here; first
  | (refine' leave_newB ?zzk1 ?zzk0 ?zzk2 ?zzk3 ?zzkf ?zzkk ?_; (case zzk0 => assumption); (case zzk1 => assumption); (case zzk2 => assumption); (case zzk3 => k_asm); (case zzkf => rfl); (case zzkk => rfl); k_whole; intro h'w R'w U'w; (try dsimp only at R'w U'w ⊢))
  | (refine' leave_onB ?zzk1 ?zzk2 ?zzk3 ?zzk4 ?zzkf ?_; (case zzk3 => assumption); (case zzk1 => assumption); (case zzk4 => assumption); (case zzk2 => assumption); (case zzkf => rfl); k_whole; intro h'w R'w U'w; (try dsimp only at R'w U'w ⊢)))
  k_with "M getAttr ref" => (k_here; k_dflt (refine' get_own ?zzk1 ?zzk2 ?zzk3 ?zzk4 ?zzk5 ?zzk6 ?zzk7 ?zzk8 ?zzk9 ?_; (case zzk1 => k_asm); (case zzk2 => k_asm); (case zzk3 => k_inst); (case zzk4 => k_is); (case zzk5 => k_is); (case zzk6 => k_is); (case zzk7 => k_is); (case zzk8 => assumption); (case zzk9 => k_handed); k_whole))
  k_with "M eval Name" => (k_here; kc_free; k_dflt (refine' nameX_F ?zzN ?zzc ?zzm ?zzd ?_ ?zza ?zzb; (case zza => rfl); (case zzb => rfl); (case zzN => k_asm); (case zzc => rfl); (case zzm => k_mem); (case zzd => assumption); k_whole))
  k_with "M compareOp In int ref" => (k_here; k_dflt (refine kda_in (knd := PySem.intKind _ _) (by k_asm) (by k_mem) (by k_asm) (by k_asm) (intKind_is _ _ _ _) false (not_three (by omega) (by omega) (by omega)) ?_))
  k_with "M compareOp NotIn int ref" => (k_here; k_dflt (refine kdg_notin (knd := PySem.intKind _ _) (by k_asm) (by k_mem) (by k_asm) (by k_asm) (intKind_is _ _ _ _) false (not_three (by omega) (by omega) (by omega)) ?_))
  k_with "M exec For Name Attribute cons nil" => (k_here; (rename Fr _ _ _ _ => lF'w); (with_unfolding_all refine' For_turns lF'w ?_; k_whole))
  k_with "M pyIter ref" => (k_here; (with_reducible show wpAny _ _ (pyIter (Value.ref _)) (fun it s₂ => TurnsAt _ _ _ _ _ _ _ _ _ it s₂) _ _); (rename Fr _ _ _ _ => lF'w); (rename News _ _ _ _ => lN'w); (with_unfolding_all first
  | refine kta_keys (knd := PySem.intKind _ _) (enc := PyData.int) (xs := [Itm.tok (fun t => Value.int 1 t), Itm.tok (fun t => Value.int 2 t), Itm.tok (fun t => Value.int 3 t)]) (by rfl) lF'w lN'w (by k_mem) (by k_asm) (by k_asm) (fun _ _ h => Value.isInt_shape h) (by rfl) ?_
  | refine kta_keys (knd := PySem.intKind _ _) (enc := PyData.int) (xs := [Itm.tok (fun t => Value.int 1 t), Itm.tok (fun t => Value.int 2 t)]) (by rfl) lF'w lN'w (by k_mem) (by k_asm) (by k_asm) (fun _ _ h => Value.isInt_shape h) (by rfl) ?_
  | refine kta_keys (knd := PySem.intKind _ _) (enc := PyData.int) (xs := [Itm.tok (fun t => Value.int 1 t)]) (by rfl) lF'w lN'w (by k_mem) (by k_asm) (by k_asm) (fun _ _ h => Value.isInt_shape h) (by rfl) ?_
  | refine kta_keys (knd := PySem.intKind _ _) (enc := PyData.int) (xs := []) (by rfl) lF'w lN'w (by k_mem) (by k_asm) (by k_asm) (fun _ _ h => Value.isInt_shape h) (by rfl) ?_); clear lF'w lN'w; intro i'w l1'w; (try k_lt l1'w))
  k_with "M And" => (k_here; (exact ⟨by first | rfl | exact decide_eq_false (by omega), _, rfl⟩))
  k_with "M exec For Tuple Call cons nil" => (k_here; (rename Fr _ _ _ _ => lF'w); (with_unfolding_all refine' For_turns lF'w ?_; k_whole))
  k_with "M kts_caught" => first | exact PutAt.same (by assumption) | assumption | (refine Eq.trans (PutAt.other (by assumption) _ (by decide)) ?_; k_extra "M kts_caught")
  k_with "M getAttr ref" => (k_here; k_dflt (refine' get_own ?zzk1 ?zzk2 ?zzk3 ?zzk4 ?zzk5 ?zzk6 ?zzk7 ?zzk8 ?zzk9 ?_; (case zzk1 => k_asm); (case zzk2 => k_asm); (case zzk3 => k_inst); (case zzk4 => k_is); (case zzk5 => k_is); (case zzk6 => k_is); (case zzk7 => k_is); (case zzk8 => kts_caught); (case zzk9 => k_handed); k_whole))
  k_with "M setAttr ref" => (k_here; k_dflt (refine' set_abs ?zzk1 ?zzk2 ?zzk3 ?zzk4 ?zzk5 ?zzk6 ?zzk7 ?zzk8 ?zzk9 ?zzk10 ?zzk12 ?zzk13 ?_; (case zzk1 => k_asm); (case zzk2 => k_asm); (case zzk3 => k_asm); (case zzk4 => k_inst); (case zzk5 => exact rfl); (case zzk6 => k_is); (case zzk7 => k_is); (case zzk8 => k_is); (case zzk9 => k_is); (case zzk10 => kts_caught); (case zzk12 => k_updF); (case zzk13 => assumption); k_whole); intro h'w es'w n'w F'w N'w P'w z'w; (try dsimp only at N'w))
  k_with "M eval Name" => (k_here; k_dflt (refine' nameX_C ?zzN ?zzc ?zzm ?zzd ?_ ?zza ?zzb; (case zza => rfl); (case zzb => rfl); (case zzN => k_asm); (case zzc => rfl); (case zzm => k_mem); (case zzd => assumption); k_whole))
  k_with "M eval Name" => (k_here; k_dflt (refine' nameX_L ?zzF ?zzv ?_ ?zza ?zzb; (case zza => first | rfl | assumption); (case zzb => rfl); (case zzF => k_asm); (case zzv => first | rfl | (with_unfolding_all assumption)); k_whole))
  k_with "M getMethod ref" => (k_here; (with_reducible show wpAny _ _ (getMethod (Value.ref _) (Str.ofString "get") _) _ _ _); k_dflt (refine kdg_method (knd := PySem.intKind _ _) (by k_asm) (by k_mem) (by k_asm) ?_))
  k_with "M setItem ref int" => (k_here; k_dflt (refine' kda_set (knd := PySem.intKind _ _) ?zzF ?zzN ?zzU ?zzd (intKind_is _ _ _ _) ?zzz ?_; (case zzF => k_asm); (case zzN => k_asm); (case zzU => k_updF); (case zzd => assumption); (case zzz => exact Nat.le_trans (by assumption) (by rw [sizeLine_eq]; decide))); intro h'w o'w F'w N'w hd'w; (try dsimp only at N'w))
  k_with "M k_ne" => ((try dsimp only); first | assumption | (refine Ne.symm ?_; assumption))
  k_with "M eval ListComp" => refine held ?_
  k_with "M pyIter ref" => refine held ?_
  k_with "M call builtin:sorted" => refine held ?_
  k_with "M subscriptTail" => refine held ?_
  k_with "M compareOp Eq ref ref" => refine held ?_
  k_with "M call ref" => ((with_reducible show wpAny _ _ (call (Value.ref 430) _) _ _ _); refine held ?_)
  trivial

def lawRest3 : Option (List Stmt) := match (PySem.Challenge.pw_rr0003_01.main.body[(64 : Nat)]?) with
  | some (.FunctionDef _ _ ss _ _ _ _ _ _ _) => some (ss.drop 9)
  | _ => none
def codeOf (v : Value) : Str := match v with | .str c _ => c | _ => ""
abbrev CODESL : List Str := [("BM" : Str), ("BM" : Str), ("BM" : Str), ("BN" : Str), ("BN" : Str), ("BN" : Str), ("AO" : Str), ("AO" : Str), ("NM" : Str), ("FF" : Str), ("FF" : Str), ("FC" : Str), ("EF" : Str), ("EF" : Str), ("FO" : Str), ("OM" : Str), ("DD" : Str), ("BS" : Str), ("SN" : Str), ("TM" : Str), ("LS" : Str), ("OV" : Str), ("ST" : Str), ("NF" : Str), ("WE" : Str), ("RG" : Str), ("RW" : Str), ("FC" : Str)]
theorem kv_value {kvs : List (Int × Value)} (h : KV kvs) {k : Int} {v : Value} (hm : (k, v) ∈ kvs) : ∃ c t t', v = .str c t ∧ valueAt kvs k = some (.str c t') := by
  obtain ⟨c, t, e, hc⟩ := h _ hm
  have e' : v = .str c t := e
  cases hv : valueAt kvs k with
  | none =>
    unfold valueAt at hv
    cases hf : kvs.find? (fun kv => decide (kv.1 = k)) with
    | none =>
      have := List.find?_eq_none.mp hf (k, v) hm
      simp at this
    | some q => rw [hf] at hv; cases hv
  | some u =>
    obtain ⟨c', t', e2, hc'⟩ := h _ (valueAt_mem hv)
    have e2' : u = .str c' t' := e2
    obtain rfl := hc'.uniq hc
    exact ⟨c', t, t', e', by rw [e2']⟩
theorem rising_pairwise : ∀ (l : List Str) (p : Str), risingS p l = true → (p :: l).Pairwise (fun a b => a.cps.toList ≤ b.cps.toList)
  | [], p, _ => List.pairwise_singleton _ _
  | x :: r, p, h => by
    have h' := Bool.and_eq_true_iff.mp (show (!ltCps x.cps.toList p.cps.toList && risingS x r) = true from h)
    have ih := rising_pairwise r x h'.2
    have hpx : p.cps.toList ≤ x.cps.toList := by
      have z : ltCps x.cps.toList p.cps.toList = false := by simpa using h'.1
      rw [ltCps_eq] at z
      exact List.not_lt.mp (of_decide_eq_false z)
    refine .cons (fun y hy => ?_) ih
    rcases List.mem_cons.mp hy with rfl | hy
    · exact hpx
    · exact List.le_trans hpx ((List.pairwise_cons.mp ih).1 y hy)
theorem sorted_uniq {a b : List Str} (ha : sortedS a = true) (hb : sortedS b = true) (hp : a.Perm b) : a = b := by
  have pw : ∀ l : List Str, sortedS l = true → l.Pairwise (fun a b => a.cps.toList ≤ b.cps.toList) := fun l h => by
    cases l with
    | nil => exact .nil
    | cons x r => exact rising_pairwise r x h
  refine List.Perm.eq_of_pairwise (fun x y _ _ h1 h2 => ?_) (pw a ha) (pw b hb) hp
  have e := List.le_antisymm h1 h2
  cases x with
  | mk c1 => cases y with
    | mk c2 =>
      have : c1 = c2 := Array.toList_inj.mp e
      rw [this]
theorem strs_eq {vs ws : List Value} {ys : List Str} (h : StrsAre vs ys) (h' : StrsAre ws ys) : vs.length = ws.length := (strs_len h).trans (strs_len h').symm

theorem law_end {w : World} {sc : Scope} {body : List Stmt} {h₀ : Heap} {L a : Addr} {cN cW cK W C K LW : Addr} {m mg mb : Str → Option Value} {p : Program} {loose : List Str} {mean : ExcName → Option Value} {s : Shared} {Q : Flow → Shared → Prop} {E : Value → Shared → Prop}
  {oKc oK oLW : Obj} {nLW : Nat} {rest : List (Addr × Obj)} {its : List (Addr × Addr × Str)} {kvs : List (Int × Value)}
  (hbody : lawRest3 = some body) (hsc : lawScope = some sc)
  (B : Below callerA h₀ [] h₀) (F : Fr h₀ L s.heap m) (X : (hd.heap_1_39 w.params).In h₀) (T : Top p loose mean mg mb h₀)
  (N : News h₀ L s.heap ((cK, oKc) :: (K, oK) :: rest))
  (hmW : m "works" = some (.ref LW)) (hoK : oKc.data = .cell (some (.ref K)))
  (hK : oK.IsDictOf (PySem.intKind RW.row.prog w) kvs) (loK : (K == sysModules) = false) (hkv : KV kvs) (hkl : kvs.length ≤ 40)
  (mLW : (LW, oLW) ∈ rest) (hcW : oLW.cls = .type "list") (hdW : oLW.data = .seq ((its.map (fun i : Addr × Addr × Str => Value.ref i.1)).toArray) nLW)
  (hits : ItemsOk w W C rest its) (hcodes : its.map (fun i : Addr × Addr × Str => i.2.2) = CODESL) (hperm : (kvs.map fun q => codeOf q.2).Perm (unl CODESL CODESL.length))
  (hQ : ∀ h' tk, Fr h₀ L h' m → (∀ q ∈ rest, h'.get? q.1 = some q.2) → Q (.ret (.bool true)) { s with heap := h', toks := tk }) :
  wpAny (model RW.row.prog w) (callerA.deeper (envX "law" sc L a (.ref 434) [("world", cW), ("number", cN), ("known", cK)])) (execs body (envX "law" sc L a (.ref 434) [("world", cW), ("number", cN), ("known", cK)])) Q E s := by
  have hlit : its.length = 28 := by have := congrArg List.length hcodes; simpa using this
  revert X; k_fill; intro X
  rw [show lawRest3 = some _ from rfl] at hbody
  rw [show lawScope = some _ from rfl] at hsc
  cases hbody
  cases hsc
  k_steps
  unfold Held
  refine comp_gen0 F (by with_unfolding_all rfl) (by decide) (by rfl) (by decide) ?_
  k_steps
  unfold Held
  refine src_dict0 (fun i ys => StrsAre ys ((kvs.take i).map fun q => codeOf q.2)) rfl (by assumption) (by assumption) (by k_mem) hK loK (Nat.le_trans hkl (by rw [sizeLine_eq]; decide)) (by rfl) (by rfl) .nil (fun i ys h => by rw [strs_len h, List.length_map, List.length_take]; exact Nat.min_le_left _ _) ?_ ?_
  · intro i k vv t own C9 oC mC D ys h tk E' hkvi b1 hoC hJ F4 N4
    simp only [List.cons_append, List.nil_append] at N4
    obtain ⟨c, t1, t2, rfl, hva⟩ := kv_value hkv (List.mem_of_getElem? hkvi)
    k_steps
    unfold Held
    refine kda_item (knd := PySem.intKind _ _) N4 (by k_mem) hK (intKind_is _ _ _ _) hva ?_
    refine GEnd.intro F4 N4 (fun q hq => hq) ?_
    have e : (kvs.take (i + 1)).map (fun q => codeOf q.2) = (kvs.take i).map (fun q => codeOf q.2) ++ [c] := by
      rw [List.take_add_one, hkvi]; simp [codeOf]
    rw [e]
    exact StrsAre.append' hJ (.cons _ _ .nil)
  intro D1 h1 tk1 ys1 hS1 F1 N1 lD1
  rw [List.take_length] at hS1
  clear F N
  k_steps
  unfold Held
  refine sorted_N_str F1 N1 ⟨_, (N1 (D1, _) (.head _)).1, rfl, _, rfl⟩ hS1 (by rw [strs_len hS1, List.length_map]; omega) ?_
  intro h2 vs2 ss2 e2 F2 N2 hS2 hp2 hs2
  generalize hR1 : _ + 1 = R1 at N2
  k_steps
  unfold Held
  refine comp_gen0 F2 (by with_unfolding_all rfl) (by decide) (by rfl) (by decide) ?_
  k_steps
  unfold Held
  have eT : (its.take its.length).map (fun i : Addr × Addr × Str => i.2.2) = CODESL := by rw [List.take_length]; exact hcodes
  refine src_pairs0 (vs := its.map (fun i : Addr × Addr × Str => Value.ref i.1)) (fun i ys => StrsAre ys ((its.take i).map fun i : Addr × Addr × Str => i.2.2)) rfl (by assumption) (by assumption) (by repeat (first | exact mLW | refine .tail _ ?_)) hcW hdW (by rw [List.length_map, hlit, sizeLine_eq]; decide) (by rfl) (by rfl) (by decide) (by rfl) .nil (fun i ys h => by rw [strs_len h, List.length_map, List.length_take]; exact Nat.min_le_left _ _)
    (fun i v₁ _ => ∃ (it : Addr × Addr × Str) (t : Tok), its[i]? = some it ∧ v₁ = .str it.2.2 t) ?_ ?_ ?_
  · intro i v hv
    rw [List.getElem?_map] at hv
    cases hit : its[i]? with
    | none => rw [hit] at hv; cases hv
    | some it =>
      rw [hit] at hv
      obtain ⟨oT, tc, nt, mT, hTc, hTd⟩ := (hits it (List.mem_of_getElem? hit)).pair
      exact ⟨it.1, oT, _, _, nt, (Option.some.inj hv).symm, by repeat (first | exact mT | refine .tail _ ?_), hTc, hTd, it, tc, rfl, rfl⟩
  · intro i v₁ v₂ own C9 oC mC D ys h tk E' hpr b1 b2 hoC hJ F4 N4
    obtain ⟨it, t, hit, rfl⟩ := hpr
    k_steps
    refine GEnd.intro F4 N4 (fun q hq => hq) ?_
    have e : (its.take (i + 1)).map (fun i : Addr × Addr × Str => i.2.2) = (its.take i).map (fun i : Addr × Addr × Str => i.2.2) ++ [it.2.2] := by
      rw [List.take_add_one, hit]; simp
    rw [e]
    exact StrsAre.append' hJ (.cons _ _ .nil)
  intro D2 h3 tk3 ys2 hS3 F3 N3 lD2
  rw [List.length_map, eT] at hS3
  k_steps
  unfold Held
  refine unlike_K B F3 X T rfl rfl N3 (.head _) rfl rfl hS3 (by decide) ?_
  intro h4 tk4 D3 ys3 F4 hS4 N4
  k_steps
  unfold Held
  refine sorted_N_str F4 N4 ⟨_, (N4 (D3, _) (.head _)).1, rfl, _, rfl⟩ hS4 (by rw [strs_len hS4]; exact Nat.lt_of_le_of_lt (unl_len _ _) (by decide)) ?_
  intro h5 vs5 ss5 e5 F5 N5 hS5 hp5 hs5
  generalize hR2 : _ + 1 = R2 at N5
  k_steps
  unfold Held
  obtain rfl : ss2 = ss5 := sorted_uniq hs2 hs5 ((hp2.trans hperm).trans hp5.symm)
  have hl25 := strs_eq hS2 hS5
  refine PySem.P.eq_list (items := vs2.toArray) (items2 := vs5.toArray) (e := fun _ => true) (N5 (R1, _) (by k_mem)).1 (N5 (R2, _) (by k_mem)).1 (by rw [List.size_toArray, List.size_toArray]; exact hl25) (fun j h1 h2 => ?_) (by units_room) ?_
  · have g1 : vs2[j]? = some vs2.toArray[j] := by rw [← List.getElem?_toArray]; exact Array.getElem?_eq_getElem h1
    have g2 : vs5[j]? = some vs5.toArray[j] := by rw [← List.getElem?_toArray]; exact Array.getElem?_eq_getElem h2
    obtain ⟨c, t, hc1, e1⟩ := strs_at hS2 g1
    obtain ⟨c', t', hc2, e2⟩ := strs_at hS5 g2
    rw [hc1] at hc2
    obtain rfl := Option.some.inj hc2
    rw [e1, e2]
    have := eqGives_str c c t t'
    rwa [beq_self_eq_true] at this
  · have e : (List.range vs2.toArray.size).all (fun _ => true) = true := by simp
    rw [e]
    k_steps
    exact hQ _ _ (by assumption) (fun q hq => (N5 q (by repeat (first | exact hq | refine List.Mem.tail _ ?_))).1)

def codeAt (k : Int) : Str := codesL.getD (k - 1).toNat ""
def NUMS : List Int := [24, 24, 24, 25, 25, 25, 26, 26, 29, 27, 27, 5, 28, 28, 23, 7, 10, 9, 2, 13, 15, 6, 16, 1, 22, 3, 20, 5]
def UNI : List Int := [24, 25, 26, 29, 27, 5, 28, 23, 7, 10, 9, 2, 13, 15, 6, 16, 1, 22, 3, 20]
theorem nums_eq : CODESL.map codeNum = NUMS := by decide +kernel
theorem uni_eq : UNI.map codeAt = unl CODESL CODESL.length := by decide +kernel
theorem rot_perm : ∀ r < 28, ((NUMS.drop r ++ NUMS.take r).foldl addKey []).isPerm UNI = true := by decide +kernel
theorem codes_in : ∀ c ∈ CODESL, c ∈ codesL := by decide +kernel
theorem keys_perm {its : List (Addr × Addr × Str)} (hcodes : its.map (fun i : Addr × Addr × Str => i.2.2) = CODESL) {r : Nat} (hr : r < 28) {kvs : List (Int × Value)} (hkv : KV kvs)
    (hk : kvs.map (·.1) = ((its.drop r ++ its.take r).map fun i : Addr × Addr × Str => codeNum i.2.2).foldl addKey []) : (kvs.map fun q => codeOf q.2).Perm (unl CODESL CODESL.length) := by
  have e1 : (kvs.map fun q => codeOf q.2) = (kvs.map (·.1)).map codeAt := by
    rw [List.map_map]
    refine List.map_congr_left fun q hq => ?_
    obtain ⟨c, t, e, j, ej, hj⟩ := hkv q hq
    show codeOf q.2 = codeAt q.1
    rw [e, ej]
    show c = codesL.getD ((j : Int) + 1 - 1).toNat ""
    rw [show ((j : Int) + 1 - 1).toNat = j by omega, List.getD_eq_getElem?_getD, hj]
    rfl
  have e2 : ∀ l : List (Addr × Addr × Str), (l.map fun i : Addr × Addr × Str => codeNum i.2.2) = (l.map fun i : Addr × Addr × Str => i.2.2).map codeNum := fun l => by rw [List.map_map]; rfl
  have e3 : ((its.drop r ++ its.take r).map fun i : Addr × Addr × Str => codeNum i.2.2) = NUMS.drop r ++ NUMS.take r := by
    rw [e2, List.map_append, List.map_append, List.map_drop, List.map_take, List.map_drop, List.map_take, hcodes, nums_eq]
  rw [e1, hk, e3, ← uni_eq]
  exact (List.isPerm_iff.mp (rot_perm r hr)).map codeAt
end
section
open PySem.Calls PySem.Spec PyProof.Rows.LCg
theorem w_V_tb_0 : True := by
  k_with_none
  k_with "M k_room" => ((try simp only [depth_mark, depth_under_make, depth_under_kw, depth_in1, depth_deeper]); exact Nat.lt_of_lt_of_le (m := 900) (by decide) (by decide))
  k_with "M exec Raise some none" => (k_here; (with_reducible show wpAny _ _ (exec (Stmt.Raise (some (Expr.Call (Expr.Name ("BasicError" : Str) _) _ [] _)) none _) _) _ _ _); k_dflt (refine' raise_K ?zzF ?zzX ?zzh ?_; (case zzF => k_asm); (case zzX => k_asm); (case zzh => first | rfl | assumption); k_whole))
  k_with "M call ref" => (k_here; k_dflt (refine wpAny_call ?_; refine' code_defC ?zzk1 ?zzk2 ?zzk3 ?zzk4 ?zzk5 ?zzkA ?zzkF ?zzkK ?zzk6 ?zzk7 ?zzk8 ?zzk9 ?zzkB ?zzkD ?_ ?zzc2 ?zzc3 ?zzc4; (case zzkA => exact Around.frames_deeper (Below.stack (by assumption))); (case zzkF => exact rfl); (case zzkK => exact rfl); (case zzk1 => k_asm); (case zzk2 => k_asm); (case zzk3 => k_asm); (case zzk4 => k_asm); (case zzk5 => k_asm); (case zzk6 => k_is); (case zzk7 => k_is); (case zzk8 => k_room); (case zzk9 => first | exact BindsTo.of_eq rfl | exact binds_K (by k_in) rfl (by k_is) rfl rfl rfl | fail "k_enter: no rule for these arguments"); (case zzkB => exact rfl); (case zzkD => decide +kernel); (case zzc2 => exact rfl); (case zzc3 => exact rfl); (case zzc4 => exact rfl); k_whole; intro g'w L'w h'w tk'w cells'w FG'w F'w N'w Y'w B'w X'w T'w l1'w; (try k_lt l1'w); k_cells Y'w; (try simp only [List.cons_append, List.nil_append] at N'w); (try dsimp only); (try k_lift B'w); (try k_fold)))
  k_with "M call ref" => (k_here; k_dflt (refine wpAny_call ?_; refine' code_def ?zzk1 ?zzk2 ?zzk3 ?zzk4 ?zzk5 ?zzkA ?zzkF ?zzkK ?zzk6 ?zzk7 ?zzk8 ?zzk9 ?zzkB ?_ ?zzc2 ?zzc3 ?zzc4 ?zzc5; (case zzkA => exact Around.frames_deeper (Below.stack (by assumption))); (case zzkF => exact rfl); (case zzkK => exact rfl); (case zzk1 => k_asm); (case zzk2 => k_asm); (case zzk3 => k_asm); (case zzk4 => k_asm); (case zzk5 => k_asm); (case zzk6 => k_is); (case zzk7 => k_is); (case zzk8 => k_room); (case zzk9 => first | exact BindsTo.of_eq rfl | exact binds_K (by k_in) rfl (by k_is) rfl rfl rfl | fail "k_enter: no rule for these arguments"); (case zzc5 => decide); (case zzkB => exact locs rfl); (case zzc2 => exact rfl); (case zzc3 => exact rfl); (case zzc4 => exact rfl); k_whole; intro g'w L'w h'w FG'w F'w N'w B'w X'w T'w; (try dsimp only); (try k_lift B'w); (try k_fold)))
  k_with "M call ref" => (k_here; (with_reducible show wpAny _ _ (call (Value.ref 34) _) _ _ _); k_dflt (refine' bx_make ?zzF ?zzX ?zzT ?zzr ?zzl ?_; (case zzF => k_asm); (case zzX => k_asm); (case zzT => k_asm); (case zzr => k_room); (case zzl => first | exact Nat.zero_le _ | exact Nat.le_refl _); k_whole); intro h'w tk'w e'w dx'w mb'w)
  k_with "M RaisesB" => (k_dflt (refine' raisesB_K ?zzF ?zzM ?_; (case zzF => k_asm); (case zzM => assumption); k_whole))
  k_with "M leaving ref" => (k_here; first
  | (refine' leave_newB ?zzk1 ?zzk0 ?zzk2 ?zzk3 ?zzkf ?zzkk ?_; (case zzk0 => assumption); (case zzk1 => assumption); (case zzk2 => assumption); (case zzk3 => k_asm); (case zzkf => rfl); (case zzkk => rfl); k_whole; intro h'w R'w U'w; (try dsimp only at R'w U'w ⊢))
  | (refine' leave_onB ?zzk1 ?zzk2 ?zzk3 ?zzk4 ?zzkf ?_; (case zzk3 => assumption); (case zzk1 => assumption); (case zzk4 => assumption); (case zzk2 => assumption); (case zzkf => rfl); k_whole; intro h'w R'w U'w; (try dsimp only at R'w U'w ⊢)))
  k_with "M getAttr ref" => (k_here; k_dflt (refine' get_own ?zzk1 ?zzk2 ?zzk3 ?zzk4 ?zzk5 ?zzk6 ?zzk7 ?zzk8 ?zzk9 ?_; (case zzk1 => k_asm); (case zzk2 => k_asm); (case zzk3 => k_inst); (case zzk4 => k_is); (case zzk5 => k_is); (case zzk6 => k_is); (case zzk7 => k_is); (case zzk8 => assumption); (case zzk9 => k_handed); k_whole))
  k_with "M eval Name" => (k_here; kc_free; k_dflt (refine' nameX_F ?zzN ?zzc ?zzm ?zzd ?_ ?zza ?zzb; (case zza => rfl); (case zzb => rfl); (case zzN => k_asm); (case zzc => rfl); (case zzm => k_mem); (case zzd => assumption); k_whole))
  k_with "M compareOp In int ref" => (k_here; k_dflt (refine kda_in (knd := PySem.intKind _ _) (by k_asm) (by k_mem) (by k_asm) (by k_asm) (intKind_is _ _ _ _) false (not_three (by omega) (by omega) (by omega)) ?_))
  k_with "M compareOp NotIn int ref" => (k_here; k_dflt (refine kdg_notin (knd := PySem.intKind _ _) (by k_asm) (by k_mem) (by k_asm) (by k_asm) (intKind_is _ _ _ _) false (not_three (by omega) (by omega) (by omega)) ?_))
  k_with "M exec For Name Attribute cons nil" => (k_here; (rename Fr _ _ _ _ => lF'w); (with_unfolding_all refine' For_turns lF'w ?_; k_whole))
  k_with "M pyIter ref" => (k_here; (with_reducible show wpAny _ _ (pyIter (Value.ref _)) (fun it s₂ => TurnsAt _ _ _ _ _ _ _ _ _ it s₂) _ _); (rename Fr _ _ _ _ => lF'w); (rename News _ _ _ _ => lN'w); (with_unfolding_all first
  | refine kta_keys (knd := PySem.intKind _ _) (enc := PyData.int) (xs := [Itm.tok (fun t => Value.int 1 t), Itm.tok (fun t => Value.int 2 t), Itm.tok (fun t => Value.int 3 t)]) (by rfl) lF'w lN'w (by k_mem) (by k_asm) (by k_asm) (fun _ _ h => Value.isInt_shape h) (by rfl) ?_
  | refine kta_keys (knd := PySem.intKind _ _) (enc := PyData.int) (xs := [Itm.tok (fun t => Value.int 1 t), Itm.tok (fun t => Value.int 2 t)]) (by rfl) lF'w lN'w (by k_mem) (by k_asm) (by k_asm) (fun _ _ h => Value.isInt_shape h) (by rfl) ?_
  | refine kta_keys (knd := PySem.intKind _ _) (enc := PyData.int) (xs := [Itm.tok (fun t => Value.int 1 t)]) (by rfl) lF'w lN'w (by k_mem) (by k_asm) (by k_asm) (fun _ _ h => Value.isInt_shape h) (by rfl) ?_
  | refine kta_keys (knd := PySem.intKind _ _) (enc := PyData.int) (xs := []) (by rfl) lF'w lN'w (by k_mem) (by k_asm) (by k_asm) (fun _ _ h => Value.isInt_shape h) (by rfl) ?_); clear lF'w lN'w; intro i'w l1'w; (try k_lt l1'w))
  k_with "M And" => (k_here; (exact ⟨by first | rfl | exact decide_eq_false (by omega), _, rfl⟩))
  k_with "M exec For Tuple Call cons nil" => (k_here; (rename Fr _ _ _ _ => lF'w); (with_unfolding_all refine' For_turns lF'w ?_; k_whole))
  k_with "M kts_caught" => first | exact PutAt.same (by assumption) | assumption | (refine Eq.trans (PutAt.other (by assumption) _ (by decide)) ?_; k_extra "M kts_caught")
  k_with "M getAttr ref" => (k_here; k_dflt (refine' get_own ?zzk1 ?zzk2 ?zzk3 ?zzk4 ?zzk5 ?zzk6 ?zzk7 ?zzk8 ?zzk9 ?_; (case zzk1 => k_asm); (case zzk2 => k_asm); (case zzk3 => k_inst); (case zzk4 => k_is); (case zzk5 => k_is); (case zzk6 => k_is); (case zzk7 => k_is); (case zzk8 => kts_caught); (case zzk9 => k_handed); k_whole))
  k_with "M setAttr ref" => (k_here; k_dflt (refine' set_abs ?zzk1 ?zzk2 ?zzk3 ?zzk4 ?zzk5 ?zzk6 ?zzk7 ?zzk8 ?zzk9 ?zzk10 ?zzk12 ?zzk13 ?_; (case zzk1 => k_asm); (case zzk2 => k_asm); (case zzk3 => k_asm); (case zzk4 => k_inst); (case zzk5 => exact rfl); (case zzk6 => k_is); (case zzk7 => k_is); (case zzk8 => k_is); (case zzk9 => k_is); (case zzk10 => kts_caught); (case zzk12 => k_updF); (case zzk13 => assumption); k_whole); intro h'w es'w n'w F'w N'w P'w z'w; (try dsimp only at N'w))
  k_with "M compareOp In str ref" => (k_here; k_dflt (refine' in_code ?zzN ?zzm ?zzi ?zzc ?_; (case zzN => k_asm); (case zzm => k_mem); (case zzc => assumption); (case zzi => exact strs_split (by assumption) (by assumption))))
  k_with "M call builtin:list.index" => (k_here; k_dflt (refine' index_code ?zzN ?zzm ?zzi ?zzc ?_; (case zzN => k_asm); (case zzm => k_mem); (case zzc => assumption); (case zzi => exact strs_split (by assumption) (by assumption))))
  k_with "M subscriptTail" => (k_here; (with_reducible show wpAny _ _ (subscriptTail _ _ (Value.ref _) (Value.int _ _)) _ _ _); k_dflt (refine' item_code ?zzN ?zzm ?zzi ?zzc ?zze ?_; (case zzN => k_asm); (case zzm => k_mem); (case zzc => assumption); (case zze => first | rfl | omega); (case zzi => exact strs_split (by assumption) (by assumption))); intro t'w)
  k_with "M call builtin:len" => (k_here; k_dflt (refine' len_code ?zzN ?zzm ?zzi ?_; (case zzN => k_asm); (case zzm => k_mem); (case zzi => exact strs_split (by assumption) (by assumption))))
  k_with "M eval Name" => (k_here; k_dflt (refine' nameX_C ?zzN ?zzc ?zzm ?zzd ?_ ?zza ?zzb; (case zza => rfl); (case zzb => rfl); (case zzN => k_asm); (case zzc => rfl); (case zzm => k_mem); (case zzd => assumption); k_whole))
  k_with "M eval Name" => (k_here; k_dflt (refine' nameX_L ?zzF ?zzv ?_ ?zza ?zzb; (case zza => first | rfl | assumption); (case zzb => rfl); (case zzF => k_asm); (case zzv => first | rfl | (with_unfolding_all assumption)); k_whole))
  k_with "M getMethod ref" => (k_here; (with_reducible show wpAny _ _ (getMethod (Value.ref _) (Str.ofString "get") _) _ _ _); k_dflt (refine kdg_method (knd := PySem.intKind _ _) (by k_asm) (by k_mem) (by k_asm) ?_))
  k_with "M setItem ref int" => (k_here; k_dflt (refine' kda_set (knd := PySem.intKind _ _) ?zzF ?zzN ?zzU ?zzd (intKind_is _ _ _ _) ?zzz ?_; (case zzF => k_asm); (case zzN => k_asm); (case zzU => k_updF); (case zzd => assumption); (case zzz => exact Nat.le_trans (by assumption) (by rw [sizeLine_eq]; decide))); intro h'w o'w F'w N'w hd'w; (try dsimp only at N'w))
  k_with "M k_ne" => ((try dsimp only); first | assumption | (refine Ne.symm ?_; assumption))
  k_with "M call ref" => (k_here; (with_reducible show wpAny _ _ (call (Value.ref 404) _) _ _ _); k_dflt (refine' law_next_0 ?zzB ?zzF ?zzX ?zzT rfl rfl ?zzN ?zzUS ?zzmC ?zzhi ?zzhl ?zzk0 ?zzk1 ?zzm0 ?zzm1 ?zzns ?_; (case zzB => assumption); (case zzF => k_asm); (case zzX => k_asm); (case zzT => k_asm); (case zzN => k_asm); (case zzUS => k_updF); (case zzmC => k_mem); (case zzhi => assumption); (case zzhl => assumption); (case zzk0 => decide); (case zzk1 => decide); (case zzm0 => decide); (case zzm1 => decide); (case zzns => exact (show ¬ @Eq Addr _ _ by first | assumption | (refine Ne.symm ?_; assumption))); k_whole); intro h'w tk'w r'w t'w t2'w n'w lo'w hi'w F'w N'w; (try dsimp only at N'w))
  k_with "M subscriptTail Name Slice ref ref" => refine held ?_
  k_with "M call builtin:len" => refine held ?_
  k_with "M exec For Tuple BinOp cons nil" => (k_here; (rename Fr _ _ _ _ => lF'w); (with_unfolding_all refine' For_turns lF'w ?_; k_whole))
  k_with "M binaryOp Add ref ref" => refine held ?_
  k_with "M execs cons" => ((with_reducible show wpAny _ _ (execs (Stmt.Assign [Expr.Name ("begin" : Str) _] _ _ :: _) _) _ _ _); refine held ?_)
  trivial

theorem news_head {h₀ h : Heap} {L x : Addr} {o : Obj} {r : List (Addr × Obj)} (N : News h₀ L h ((x, o) :: r)) : ∃ RL oRL, RL = x ∧ oRL = o ∧ News h₀ L h ((RL, oRL) :: r) := ⟨x, o, rfl, rfl, N⟩
theorem CX.mono {w : World} {W dW C dC dO dF dA PL : Addr} {rest rest' : List (Addr × Obj)} (h : CX w W dW C dC dO dF dA PL rest) (hs : ∀ q ∈ rest, q ∈ rest') (hne : ∀ q ∈ rest', ¬ q.1 = dW) : CX w W dW C dC dO dF dA PL rest' where
  op := by
    obtain ⟨oO, d1, d2, d3, a, b, c, ⟨o1, e1, f1⟩, ⟨o2, e2, f2⟩, ⟨o3, bf, e3, f3⟩⟩ := h.op
    exact ⟨oO, d1, d2, d3, hs _ a, b, c, ⟨o1, hs _ e1, f1⟩, ⟨o2, hs _ e2, f2⟩, ⟨o3, bf, hs _ e3, f3⟩⟩
  fi := by
    obtain ⟨oF, x, y, z, a, b⟩ := h.fi
    exact ⟨oF, x, y, z, hs _ a, b⟩
  ar := by
    obtain ⟨oA, G, dG, HL, esG, nG, cH, th, tgb, a, b, c, d, e, f, r⟩ := h.ar
    exact ⟨oA, G, dG, HL, esG, nG, cH, th, tgb, hs _ a, b, c, hs _ d, hs _ e, hs _ f, r⟩
  pl := by
    obtain ⟨cP, a⟩ := h.pl
    exact ⟨cP, hs _ a⟩
  ne := hne
  nW := h.nW
  nC := h.nC
  ndC := h.ndC
theorem slice_drop' {vs : List Value} {r : Int} (h : 0 ≤ r) : (slicePick vs.toArray (some r) none none).toList = vs.drop r.toNat := by
  obtain ⟨n, rfl⟩ := Int.eq_ofNat_of_zero_le h
  rw [slicePick_from']; simp
theorem slice_take' {vs : List Value} {r : Int} (h : 0 ≤ r) : (slicePick vs.toArray none (some r) none).toList = vs.take r.toNat := by
  obtain ⟨n, rfl⟩ := Int.eq_ofNat_of_zero_le h
  rw [slicePick_upto']; simp
theorem add_ls {prog : Program} {w : World} {A : Around} {E : Value → Shared → Prop} {s : Shared} {h₀ : Heap} {L : Addr} {m : Str → Option Value} {news : List (Addr × Obj)} {l b : Addr} {xs ys zs : List Value} {Q : Value → Shared → Prop} (F : Fr h₀ L s.heap m) (N : News h₀ L s.heap news) (hl : s.heap.IsList l xs.toArray) (hb : s.heap.IsList b ys.toArray) (e : xs ++ ys = zs) (hsz : xs.length + ys.length ≤ sizeLine)
    (h : ∀ RL oRL nR h', oRL.cls = .type "list" → oRL.data = .seq zs.toArray nR → (∀ p ∈ news, p.1 < RL) → Fr h₀ L h' m → News h₀ L h' ((RL, oRL) :: news) → Q (.ref RL) { s with heap := h' }) :
    wpAny (model prog w) A (binaryOp .Add (.ref l) (.ref b)) Q E s := by
  subst e
  exact add_arrays F N hl hb (fun h' F' N' => h _ _ _ h' rfl rfl (fun p hp => Heap.lt_size (N p hp).1) F' N') (by simpa using hsz)
theorem exRest {P : Prop} (RL : Addr) (oRL : Obj) (rest : List (Addr × Obj)) (k : ∀ r, r = (RL, oRL) :: rest → P) : P := k _ rfl
def lawRest2 : Option (List Stmt) := match (PySem.Challenge.pw_rr0003_01.main.body[(64 : Nat)]?) with
  | some (.FunctionDef _ _ ss _ _ _ _ _ _ _) => some (ss.drop 7)
  | _ => none

theorem law_tail2 {w : World} {sc : Scope} {body : List Stmt} {h₀ : Heap} {L a : Addr} {cN cW cK W dW C dC K dO dF dA PL SK CL LW : Addr} {m mg mb : Str → Option Value} {p : Program} {loose : List Str} {mean : ExcName → Option Value} {s : Shared} {Q : Flow → Shared → Prop} {E : Value → Shared → Prop}
  {oN oW oKc oK oLW : Obj} {v0 : Option Value} {esW esC : List DictEntry} {nW nC nSK nCL nLW : Nat} {rest : List (Addr × Obj)} {tk0 : Tok} {vs : List Value} {ns : List Int} {its : List (Addr × Addr × Str)}
  (hbody : lawRest2 = some body) (hsc : lawScope = some sc)
  (B : Below callerA h₀ [] h₀) (F : Fr h₀ L s.heap m) (X : (hd.heap_1_39 w.params).In h₀) (T : Top p loose mean mg mb h₀) (hP : CodeHd h₀ 434 432)
  (N : News h₀ L s.heap ((SK, listOf #[.ref CL, .int (0 + 1 + 1 + 1 + 1) tk0] nSK) :: (CL, listOf vs.toArray nCL) :: (432, tabObj #[]) :: (cN, oN) :: (cW, oW) :: (cK, oKc) :: (W, instObj 386 dW) :: (dW, dictOf esW nW) :: (C, instObj 138 dC) :: (dC, dictOf esC nC) :: (K, oK) :: rest))
  (hmC : m "control" = some (.ref C)) (hmS : m "sack" = some (.ref SK)) (hmW : m "works" = some (.ref LW)) (hi : IntsAre vs ns) (hlen : ns.length ≤ 63)
  (hoW : oW.data = .cell (some (.ref W))) (hoN : oN.data = .cell v0) (hoK : oKc.data = .cell (some (.ref K)))
  (hK : oK.IsDictOf (PySem.intKind RW.row.prog w) []) (loK : (K == sysModules) = false)
  (mLW : (LW, oLW) ∈ rest) (hcW : oLW.cls = .type "list") (hdW : oLW.data = .seq ((its.map (fun i : Addr × Addr × Str => Value.ref i.1)).toArray) nLW)
  (hits : ItemsOk w W C rest its) (hcodes : its.map (fun i : Addr × Addr × Str => i.2.2) = [("BM" : Str), ("BM" : Str), ("BM" : Str), ("BN" : Str), ("BN" : Str), ("BN" : Str), ("AO" : Str), ("AO" : Str), ("NM" : Str), ("FF" : Str), ("FF" : Str), ("FC" : Str), ("EF" : Str), ("EF" : Str), ("FO" : Str), ("OM" : Str), ("DD" : Str), ("BS" : Str), ("SN" : Str), ("TM" : Str), ("LS" : Str), ("OV" : Str), ("ST" : Str), ("NF" : Str), ("WE" : Str), ("RG" : Str), ("RW" : Str), ("FC" : Str)])
  (hw : WF dO dF dA esW) (hc : CF PL esC) (hx : CX w W dW C dC dO dF dA PL rest)
  (hoff : OwnOff rest [SK, CL, 432, cN, cW, cK, W, dW, C, dC, K]) (hnd : ([SK, CL, 432, cN, cW, cK, W, dW, C, dC, K] : List Addr).Nodup) (hE : PassesOwn (model RW.row.prog w) (callerA.deeper (envX "law" sc L a (.ref 434) [("world", cW), ("number", cN), ("known", cK)])) (envX "law" sc L a (.ref 434) [("world", cW), ("number", cN), ("known", cK)]) E)
  (hQ : ∀ h' tk m', Fr h₀ L h' m' → GrownAt 432 h' → (∀ q ∈ rest, h'.get? q.1 = some q.2) → Q (.ret (.bool true)) { s with heap := h', toks := tk }) :
  wpAny (model RW.row.prog w) (callerA.deeper (envX "law" sc L a (.ref 434) [("world", cW), ("number", cN), ("known", cK)])) (execs body (envX "law" sc L a (.ref 434) [("world", cW), ("number", cN), ("known", cK)])) Q E s := by
  have hnd0 := hnd
  refine nodup_ne11 hnd ?_
  intro n0_1 n0_2 n0_3 n0_4 n0_5 n0_6 n0_7 n0_8 n0_9 n0_10 n1_2 n1_3 n1_4 n1_5 n1_6 n1_7 n1_8 n1_9 n1_10 n2_3 n2_4 n2_5 n2_6 n2_7 n2_8 n2_9 n2_10 n3_4 n3_5 n3_6 n3_7 n3_8 n3_9 n3_10 n4_5 n4_6 n4_7 n4_8 n4_9 n4_10 n5_6 n5_7 n5_8 n5_9 n5_10 n6_7 n6_8 n6_9 n6_10 n7_8 n7_9 n7_10 n8_9 n8_10 n9_10
  have hlit : its.length = 28 := by have := congrArg List.length hcodes; simpa using this
  revert X; k_fill; intro X
  rw [show lawRest2 = some _ from rfl] at hbody
  rw [show lawScope = some _ from rfl] at hsc
  cases hbody
  cases hsc
  k_steps
  unfold Held
  refine call_len_list ⟨oLW, (N (LW, oLW) (by repeat (first | exact mLW | refine .tail _ ?_))).1, hcW, _, hdW⟩ (by rw [List.size_toArray, List.length_map, hlit]; decide) ?_
  rw [List.size_toArray, List.length_map, hlit, show (((28 : Nat) : Int)) = 28 from rfl]
  k_steps
  unfold Held
  rename Fr h₀ L _ _ => F3
  rename News h₀ L _ _ => N3
  rename (0 ≤ (_ : Int)) => r0
  rename ((_ : Int) < 28) => r1
  rename Int => rI
  have sz : (its.map (fun i : Addr × Addr × Str => Value.ref i.1)).toArray.size ≤ sizeLine := by rw [List.size_toArray, List.length_map, hlit, sizeLine_eq]; decide
  refine kmk_slice_lit F3 N3 ⟨oLW, (N3 (LW, oLW) (by repeat (first | exact mLW | refine .tail _ ?_))).1, hcW, _, hdW⟩ (.int _ _) .none ((slice_drop' r0).trans List.map_drop.symm) ?_ rfl (fun _ => rfl) sz
  intro D1 h4 F4 N4 lD1
  clear F3 N3
  k_steps
  unfold Held
  refine kmk_slice_lit F4 N4 ⟨oLW, (N4 (LW, oLW) (by repeat (first | exact mLW | refine .tail _ ?_))).1, hcW, _, hdW⟩ .none (.int _ _) ((slice_take' r0).trans List.map_take.symm) ?_ rfl (fun _ => rfl) sz
  intro D2 h5 F5 N5 lD2
  clear F4 N4
  k_steps
  unfold Held
  refine add_ls F5 N5 ⟨_, (N5 (D1, _) (by k_mem)).1, rfl, _, rfl⟩ ⟨_, (N5 (D2, _) (by k_mem)).1, rfl, _, rfl⟩ List.map_append.symm ?_ ?_
  · simp only [List.length_map, List.length_drop, List.length_take, hlit]
    rw [sizeLine_eq]
    have : (2 ^ 20 : Nat) = 1048576 := by decide
    omega
  intro RL oRL nR h6 hcR hdR lR F6 N7
  have sub9 : ∀ b ∈ ([432, cN, cW, cK, W, dW, C, dC, K] : List Addr), b ∈ ([SK, CL, 432, cN, cW, cK, W, dW, C, dC, K] : List Addr) := fun b hb => .tail _ (.tail _ hb)
  have ltR : ∀ b ∈ ([432, cN, cW, cK, W, dW, C, dC, K] : List Addr), b < RL := fun b hb => by
    obtain ⟨y, hy, rfl⟩ := List.mem_map.mp (show b ∈ [(SK, _), (CL, _), (432, tabObj #[]), (cN, oN), (cW, oW), (cK, oKc), (W, instObj 386 dW), (dW, dictOf esW nW), (C, instObj 138 dC), (dC, dictOf esC nC), (K, oK)].map (·.1) from sub9 b hb)
    exact lR y (.tail _ (.tail _ (List.mem_append_left rest hy)))
  refine exRest RL oRL rest fun rest2 hr2 => ?_
  have N8 := pickN (news := [(432, tabObj #[])] ++ ((cN, oN) :: (cW, oW) :: (cK, oKc) :: (W, instObj 386 dW) :: (dW, dictOf esW nW) :: (C, instObj 138 dC) :: (dC, dictOf esC nC) :: (K, oK) :: rest2)) N7 (hr2 ▸ List.forall_mem_cons.mpr ⟨.tail _ (.tail _ (.tail _ (.tail _ (.tail _ (.head _))))), List.forall_mem_cons.mpr ⟨.tail _ (.tail _ (.tail _ (.tail _ (.tail _ (.tail _ (.head _)))))), List.forall_mem_cons.mpr ⟨.tail _ (.tail _ (.tail _ (.tail _ (.tail _ (.tail _ (.tail _ (.head _))))))), List.forall_mem_cons.mpr ⟨.tail _ (.tail _ (.tail _ (.tail _ (.tail _ (.tail _ (.tail _ (.tail _ (.head _)))))))), List.forall_mem_cons.mpr ⟨.tail _ (.tail _ (.tail _ (.tail _ (.tail _ (.tail _ (.tail _ (.tail _ (.tail _ (.head _))))))))), List.forall_mem_cons.mpr ⟨.tail _ (.tail _ (.tail _ (.tail _ (.tail _ (.tail _ (.tail _ (.tail _ (.tail _ (.tail _ (.head _)))))))))), List.forall_mem_cons.mpr ⟨.tail _ (.tail _ (.tail _ (.tail _ (.tail _ (.tail _ (.tail _ (.tail _ (.tail _ (.tail _ (.tail _ (.head _))))))))))), List.forall_mem_cons.mpr ⟨.tail _ (.tail _ (.tail _ (.tail _ (.tail _ (.tail _ (.tail _ (.tail _ (.tail _ (.tail _ (.tail _ (.tail _ (.head _)))))))))))), List.forall_mem_cons.mpr ⟨.tail _ (.tail _ (.tail _ (.tail _ (.tail _ (.tail _ (.tail _ (.tail _ (.tail _ (.tail _ (.tail _ (.tail _ (.tail _ (.head _))))))))))))), List.forall_mem_cons.mpr ⟨.head _, fun q hq => .tail _ (.tail _ (.tail _ (.tail _ (.tail _ (.tail _ (.tail _ (.tail _ (.tail _ (.tail _ (.tail _ (.tail _ (.tail _ (.tail _ (hq))))))))))))))⟩⟩⟩⟩⟩⟩⟩⟩⟩⟩)
  have sub2 : ∀ q ∈ rest, q ∈ rest2 := fun q hq => hr2 ▸ .tail _ hq
  have mRL : (RL, oRL) ∈ rest2 := hr2 ▸ .head _
  have hoff2 : ∀ b ∈ ([432, cN, cW, cK, W, dW, C, dC, K] : List Addr), ∀ p ∈ rest2, p.1 ≠ b := by
    intro b hb p hp
    rw [hr2] at hp
    rcases List.mem_cons.mp hp with rfl | hp
    · exact Nat.ne_of_gt (ltR b hb)
    · exact hoff p hp b (.tail _ (.tail _ hb))
  have hx2 : CX w W dW C dC dO dF dA PL rest2 := hx.mono sub2 (hoff2 dW (by repeat (first | exact .head _ | refine .tail _ ?_)))
  have hcodeIn : ∀ i ∈ its, i.2.2 ∈ CODESL := fun i hi => by
    have z : i.2.2 ∈ its.map (fun i : Addr × Addr × Str => i.2.2) := List.mem_map_of_mem hi
    rw [hcodes] at z
    exact z
  have hits2 : ItemsOk w W C rest2 its := fun i hi => (hits i hi).mono sub2
  refine iter_listTurns (lo := oRL) (vs := (its.drop rI.toNat ++ its.take rI.toNat).map (fun i : Addr × Addr × Str => Value.ref i.1)) rfl F6 N8 (.tail _ (.tail _ (.tail _ (.tail _ (.tail _ (.tail _ (.tail _ (.tail _ (.tail _ mRL))))))))) hcR hdR ?_
  intro I hI
  rw [List.map_map]
  have hI' : ∀ b ∈ ([432, cN, cW, cK, W, dW, C, dC, K] : List Addr), b < I := by
    intro b hb
    obtain ⟨y, hy, rfl⟩ := List.mem_map.mp (show b ∈ [(432, tabObj #[]), (cN, oN), (cW, oW), (cK, oKc), (W, instObj 386 dW), (dW, dictOf esW nW), (C, instObj 138 dC), (dC, dictOf esC nC), (K, oK)].map (·.1) from hb)
    exact hI y (List.mem_append_left rest2 hy)
  have mem_its : ∀ i ∈ its.drop rI.toNat ++ its.take rI.toNat, i ∈ its := fun i hi => by
    rcases List.mem_append.mp hi with hi | hi
    · exact List.mem_of_mem_drop hi
    · exact List.mem_of_mem_take hi
  refine loop_rest (a := a) rfl rfl B X T hP (m₀ := _) ?hmC hoW hoK loK hx2 mRL (fun p hp b hb => ?off) (.cons (fun b hb => Nat.ne_of_gt (hI' b hb)) (List.nodup_cons.mp (List.nodup_cons.mp hnd0).2).2) (its.drop rI.toNat ++ its.take rI.toNat) [] 0 _ _ (fun i hi => ⟨hits2 i (mem_its i hi), codes_in _ (hcodeIn i (mem_its i hi))⟩)
    ⟨⟨[(432, tabObj #[])], oN, v0, esW, nW, esC, nC, oK, [], .inl rfl, rfl, hoN, hw, hc, hK, fun q hq => (nomatch hq), rfl, Nat.le_refl _⟩, fun _ _ _ => rfl⟩ ?hlen ?fin
  case hmC => exact hmC
  case off =>
    rcases List.mem_cons.mp hb with rfl | hb
    · exact Nat.ne_of_lt (hI p (by repeat (first | exact hp | refine .tail _ ?_)))
    · exact hoff2 b hb p hp
  case hlen =>
    rw [List.length_append, List.length_drop, List.length_take, hlit]
    omega
  case fin =>
    intro h9 tk9 m9 news9 F9 N9 hst
    obtain ⟨⟨mid, oN9, v9, esW9, nW9, esC9, nC9, oK9, kvs, hmid, hnews, hoN9, hw9, hc9, hK9, hkv9, hkeys9, hkl9⟩, hms9⟩ := hst
    subst hnews
    obtain ⟨ps9, hps⟩ : ∃ ps, (432, tabObj ps) ∈ mid := by
      rcases hmid with rfl | ⟨c1, c2, oc1, oc2, vs1, vs2, u1, u2, rfl, _⟩
      · exact ⟨_, .head _⟩
      · exact ⟨_, .head _⟩
    have N10 := pickN (news := (cK, oKc) :: (K, oK9) :: ((432, tabObj ps9) :: rest2)) N9 (by
      intro q hq
      rcases List.mem_cons.mp hq with rfl | hq
      · exact List.mem_append_right _ (.tail _ (.tail _ (.head _)))
      rcases List.mem_cons.mp hq with rfl | hq
      · exact List.mem_append_right _ (.tail _ (.tail _ (.tail _ (.tail _ (.tail _ (.tail _ (.tail _ (.head _))))))))
      rcases List.mem_cons.mp hq with rfl | hq
      · exact List.mem_append_left _ hps
      · exact List.mem_append_right _ (.tail _ (.tail _ (.tail _ (.tail _ (.tail _ (.tail _ (.tail _ (.tail _ hq)))))))))
    have hkl : kvs.length ≤ 40 := by
      rw [List.length_append, List.length_drop, List.length_take, hlit] at hkl9
      omega
    have hr28 : rI.toNat < 28 := by omega
    show wpAny _ _ (execs _ _) _ _ _
    exact law_end (body := _) rfl rfl B F9 X T N10 ((hms9 _ (by decide) (by decide)).trans hmW) hoK hK9 loK hkv9 hkl (.tail _ (sub2 _ mLW)) hcW hdW (fun i hi => (hits2 i hi).mono fun q hq => .tail _ hq) hcodes (keys_perm hcodes hr28 hkv9 hkeys9) (fun h' tk F' hr => hQ h' tk _ F' ⟨ps9, hr (432, tabObj ps9) (.head _)⟩ (fun q hq => hr q (.tail _ (sub2 q hq))))
end
section
open PySem.Calls PySem.Spec PyProof.Rows.LCg
theorem w_V_ta_0 : True := by
  k_with_none
  k_with "M k_room" => ((try simp only [depth_mark, depth_under_make, depth_under_kw, depth_in1, depth_deeper]); exact Nat.lt_of_lt_of_le (m := 900) (by decide) (by decide))
  k_with "M exec Raise some none" => (k_here; (with_reducible show wpAny _ _ (exec (Stmt.Raise (some (Expr.Call (Expr.Name ("BasicError" : Str) _) _ [] _)) none _) _) _ _ _); k_dflt (refine' raise_K ?zzF ?zzX ?zzh ?_; (case zzF => k_asm); (case zzX => k_asm); (case zzh => first | rfl | assumption); k_whole))
  k_with "M call ref" => (k_here; k_dflt (refine wpAny_call ?_; refine' code_defC ?zzk1 ?zzk2 ?zzk3 ?zzk4 ?zzk5 ?zzkA ?zzkF ?zzkK ?zzk6 ?zzk7 ?zzk8 ?zzk9 ?zzkB ?zzkD ?_ ?zzc2 ?zzc3 ?zzc4; (case zzkA => exact Around.frames_deeper (Below.stack (by assumption))); (case zzkF => exact rfl); (case zzkK => exact rfl); (case zzk1 => k_asm); (case zzk2 => k_asm); (case zzk3 => k_asm); (case zzk4 => k_asm); (case zzk5 => k_asm); (case zzk6 => k_is); (case zzk7 => k_is); (case zzk8 => k_room); (case zzk9 => first | exact BindsTo.of_eq rfl | exact binds_K (by k_in) rfl (by k_is) rfl rfl rfl | fail "k_enter: no rule for these arguments"); (case zzkB => exact rfl); (case zzkD => decide +kernel); (case zzc2 => exact rfl); (case zzc3 => exact rfl); (case zzc4 => exact rfl); k_whole; intro g'w L'w h'w tk'w cells'w FG'w F'w N'w Y'w B'w X'w T'w l1'w; (try k_lt l1'w); k_cells Y'w; (try simp only [List.cons_append, List.nil_append] at N'w); (try dsimp only); (try k_lift B'w); (try k_fold)))
  k_with "M call ref" => (k_here; k_dflt (refine wpAny_call ?_; refine' code_def ?zzk1 ?zzk2 ?zzk3 ?zzk4 ?zzk5 ?zzkA ?zzkF ?zzkK ?zzk6 ?zzk7 ?zzk8 ?zzk9 ?zzkB ?_ ?zzc2 ?zzc3 ?zzc4 ?zzc5; (case zzkA => exact Around.frames_deeper (Below.stack (by assumption))); (case zzkF => exact rfl); (case zzkK => exact rfl); (case zzk1 => k_asm); (case zzk2 => k_asm); (case zzk3 => k_asm); (case zzk4 => k_asm); (case zzk5 => k_asm); (case zzk6 => k_is); (case zzk7 => k_is); (case zzk8 => k_room); (case zzk9 => first | exact BindsTo.of_eq rfl | exact binds_K (by k_in) rfl (by k_is) rfl rfl rfl | fail "k_enter: no rule for these arguments"); (case zzc5 => decide); (case zzkB => exact locs rfl); (case zzc2 => exact rfl); (case zzc3 => exact rfl); (case zzc4 => exact rfl); k_whole; intro g'w L'w h'w FG'w F'w N'w B'w X'w T'w; (try dsimp only); (try k_lift B'w); (try k_fold)))
  k_with "M call ref" => (k_here; (with_reducible show wpAny _ _ (call (Value.ref 34) _) _ _ _); k_dflt (refine' bx_make ?zzF ?zzX ?zzT ?zzr ?zzl ?_; (case zzF => k_asm); (case zzX => k_asm); (case zzT => k_asm); (case zzr => k_room); (case zzl => first | exact Nat.zero_le _ | exact Nat.le_refl _); k_whole); intro h'w tk'w e'w dx'w mb'w)
  k_with "M RaisesB" => (k_dflt (refine' raisesB_K ?zzF ?zzM ?_; (case zzF => k_asm); (case zzM => assumption); k_whole))
  k_with "M leaving ref" => (k_here; first
  | (refine' leave_newB ?zzk1 ?zzk0 ?zzk2 ?zzk3 ?zzkf ?zzkk ?_; (case zzk0 => assumption); (case zzk1 => assumption); (case zzk2 => assumption); (case zzk3 => k_asm); (case zzkf => rfl); (case zzkk => rfl); k_whole; intro h'w R'w U'w; (try dsimp only at R'w U'w ⊢))
  | (refine' leave_onB ?zzk1 ?zzk2 ?zzk3 ?zzk4 ?zzkf ?_; (case zzk3 => assumption); (case zzk1 => assumption); (case zzk4 => assumption); (case zzk2 => assumption); (case zzkf => rfl); k_whole; intro h'w R'w U'w; (try dsimp only at R'w U'w ⊢)))
  k_with "M getAttr ref" => (k_here; k_dflt (refine' get_own ?zzk1 ?zzk2 ?zzk3 ?zzk4 ?zzk5 ?zzk6 ?zzk7 ?zzk8 ?zzk9 ?_; (case zzk1 => k_asm); (case zzk2 => k_asm); (case zzk3 => k_inst); (case zzk4 => k_is); (case zzk5 => k_is); (case zzk6 => k_is); (case zzk7 => k_is); (case zzk8 => assumption); (case zzk9 => k_handed); k_whole))
  k_with "M eval Name" => (k_here; kc_free; k_dflt (refine' nameX_F ?zzN ?zzc ?zzm ?zzd ?_ ?zza ?zzb; (case zza => rfl); (case zzb => rfl); (case zzN => k_asm); (case zzc => rfl); (case zzm => k_mem); (case zzd => assumption); k_whole))
  k_with "M compareOp In int ref" => (k_here; k_dflt (refine kda_in (knd := PySem.intKind _ _) (by k_asm) (by k_mem) (by k_asm) (by k_asm) (intKind_is _ _ _ _) false (not_three (by omega) (by omega) (by omega)) ?_))
  k_with "M compareOp NotIn int ref" => (k_here; k_dflt (refine kdg_notin (knd := PySem.intKind _ _) (by k_asm) (by k_mem) (by k_asm) (by k_asm) (intKind_is _ _ _ _) false (not_three (by omega) (by omega) (by omega)) ?_))
  k_with "M exec For Name Attribute cons nil" => (k_here; (rename Fr _ _ _ _ => lF'w); (with_unfolding_all refine' For_turns lF'w ?_; k_whole))
  k_with "M pyIter ref" => (k_here; (with_reducible show wpAny _ _ (pyIter (Value.ref _)) (fun it s₂ => TurnsAt _ _ _ _ _ _ _ _ _ it s₂) _ _); (rename Fr _ _ _ _ => lF'w); (rename News _ _ _ _ => lN'w); (with_unfolding_all first
  | refine kta_keys (knd := PySem.intKind _ _) (enc := PyData.int) (xs := [Itm.tok (fun t => Value.int 1 t), Itm.tok (fun t => Value.int 2 t), Itm.tok (fun t => Value.int 3 t)]) (by rfl) lF'w lN'w (by k_mem) (by k_asm) (by k_asm) (fun _ _ h => Value.isInt_shape h) (by rfl) ?_
  | refine kta_keys (knd := PySem.intKind _ _) (enc := PyData.int) (xs := [Itm.tok (fun t => Value.int 1 t), Itm.tok (fun t => Value.int 2 t)]) (by rfl) lF'w lN'w (by k_mem) (by k_asm) (by k_asm) (fun _ _ h => Value.isInt_shape h) (by rfl) ?_
  | refine kta_keys (knd := PySem.intKind _ _) (enc := PyData.int) (xs := [Itm.tok (fun t => Value.int 1 t)]) (by rfl) lF'w lN'w (by k_mem) (by k_asm) (by k_asm) (fun _ _ h => Value.isInt_shape h) (by rfl) ?_
  | refine kta_keys (knd := PySem.intKind _ _) (enc := PyData.int) (xs := []) (by rfl) lF'w lN'w (by k_mem) (by k_asm) (by k_asm) (fun _ _ h => Value.isInt_shape h) (by rfl) ?_); clear lF'w lN'w; intro i'w l1'w; (try k_lt l1'w))
  k_with "M And" => (k_here; (exact ⟨by first | rfl | exact decide_eq_false (by omega), _, rfl⟩))
  k_with "M exec For Tuple Call cons nil" => (k_here; (rename Fr _ _ _ _ => lF'w); (with_unfolding_all refine' For_turns lF'w ?_; k_whole))
  k_with "M kts_caught" => first | exact PutAt.same (by assumption) | assumption | (refine Eq.trans (PutAt.other (by assumption) _ (by decide)) ?_; k_extra "M kts_caught")
  k_with "M getAttr ref" => (k_here; k_dflt (refine' get_own ?zzk1 ?zzk2 ?zzk3 ?zzk4 ?zzk5 ?zzk6 ?zzk7 ?zzk8 ?zzk9 ?_; (case zzk1 => k_asm); (case zzk2 => k_asm); (case zzk3 => k_inst); (case zzk4 => k_is); (case zzk5 => k_is); (case zzk6 => k_is); (case zzk7 => k_is); (case zzk8 => kts_caught); (case zzk9 => k_handed); k_whole))
  k_with "M setAttr ref" => (k_here; k_dflt (refine' set_abs ?zzk1 ?zzk2 ?zzk3 ?zzk4 ?zzk5 ?zzk6 ?zzk7 ?zzk8 ?zzk9 ?zzk10 ?zzk12 ?zzk13 ?_; (case zzk1 => k_asm); (case zzk2 => k_asm); (case zzk3 => k_asm); (case zzk4 => k_inst); (case zzk5 => exact rfl); (case zzk6 => k_is); (case zzk7 => k_is); (case zzk8 => k_is); (case zzk9 => k_is); (case zzk10 => kts_caught); (case zzk12 => k_updF); (case zzk13 => assumption); k_whole); intro h'w es'w n'w F'w N'w P'w z'w; (try dsimp only at N'w))
  k_with "M compareOp In str ref" => (k_here; k_dflt (refine' in_code ?zzN ?zzm ?zzi ?zzc ?_; (case zzN => k_asm); (case zzm => k_mem); (case zzc => assumption); (case zzi => exact strs_split (by assumption) (by assumption))))
  k_with "M call builtin:list.index" => (k_here; k_dflt (refine' index_code ?zzN ?zzm ?zzi ?zzc ?_; (case zzN => k_asm); (case zzm => k_mem); (case zzc => assumption); (case zzi => exact strs_split (by assumption) (by assumption))))
  k_with "M subscriptTail" => (k_here; (with_reducible show wpAny _ _ (subscriptTail _ _ (Value.ref _) (Value.int _ _)) _ _ _); k_dflt (refine' item_code ?zzN ?zzm ?zzi ?zzc ?zze ?_; (case zzN => k_asm); (case zzm => k_mem); (case zzc => assumption); (case zze => first | rfl | omega); (case zzi => exact strs_split (by assumption) (by assumption))); intro t'w)
  k_with "M call builtin:len" => (k_here; k_dflt (refine' len_code ?zzN ?zzm ?zzi ?_; (case zzN => k_asm); (case zzm => k_mem); (case zzi => exact strs_split (by assumption) (by assumption))))
  k_with "M eval Name" => (k_here; k_dflt (refine' nameX_C ?zzN ?zzc ?zzm ?zzd ?_ ?zza ?zzb; (case zza => rfl); (case zzb => rfl); (case zzN => k_asm); (case zzc => rfl); (case zzm => k_mem); (case zzd => assumption); k_whole))
  k_with "M eval Name" => (k_here; k_dflt (refine' nameX_L ?zzF ?zzv ?_ ?zza ?zzb; (case zza => first | rfl | assumption); (case zzb => rfl); (case zzF => k_asm); (case zzv => first | rfl | (with_unfolding_all assumption)); k_whole))
  k_with "M getMethod ref" => (k_here; (with_reducible show wpAny _ _ (getMethod (Value.ref _) (Str.ofString "get") _) _ _ _); k_dflt (refine kdg_method (knd := PySem.intKind _ _) (by k_asm) (by k_mem) (by k_asm) ?_))
  k_with "M setItem ref int" => (k_here; k_dflt (refine' kda_set (knd := PySem.intKind _ _) ?zzF ?zzN ?zzU ?zzd (intKind_is _ _ _ _) ?zzz ?_; (case zzF => k_asm); (case zzN => k_asm); (case zzU => k_updF); (case zzd => assumption); (case zzz => exact Nat.le_trans (by assumption) (by rw [sizeLine_eq]; decide))); intro h'w o'w F'w N'w hd'w; (try dsimp only at N'w))
  k_with "M k_ne" => ((try dsimp only); first | assumption | (refine Ne.symm ?_; assumption))
  k_with "M call ref" => (k_here; (with_reducible show wpAny _ _ (call (Value.ref 404) _) _ _ _); k_dflt (refine' law_next_0 ?zzB ?zzF ?zzX ?zzT rfl rfl ?zzN ?zzUS ?zzmC ?zzhi ?zzhl ?zzk0 ?zzk1 ?zzm0 ?zzm1 ?zzns ?_; (case zzB => assumption); (case zzF => k_asm); (case zzX => k_asm); (case zzT => k_asm); (case zzN => k_asm); (case zzUS => k_updF); (case zzmC => k_mem); (case zzhi => assumption); (case zzhl => assumption); (case zzk0 => decide); (case zzk1 => decide); (case zzm0 => decide); (case zzm1 => decide); (case zzns => exact (show ¬ @Eq Addr _ _ by first | assumption | (refine Ne.symm ?_; assumption))); k_whole); intro h'w tk'w r'w t'w t2'w n'w lo'w hi'w F'w N'w; (try dsimp only at N'w))
  k_with "M call ref" => ((with_reducible show wpAny _ _ (call (Value.ref 418) _) _ _ _); refine held ?_)
  k_with "M call ref" => ((with_reducible show wpAny _ _ (call (Value.ref 425) _) _ _ _); refine held ?_)
  k_with "M binaryOp Add ref ref" => refine held ?_
  k_with "M execs cons" => ((with_reducible show wpAny _ _ (execs (Stmt.Assign [Expr.Name ("begin" : Str) _] _ _ :: _) _) _ _ _); refine held ?_)
  trivial

def lawRest : Option (List Stmt) := match (PySem.Challenge.pw_rr0003_01.main.body[(64 : Nat)]?) with
  | some (.FunctionDef _ _ ss _ _ _ _ _ _ _) => some (ss.drop 6)
  | _ => none
theorem off_of {own big : List (Addr × Obj)} {LST : Addr} {oL : Obj} (h : ∀ q ∈ (LST, oL) :: own, ∀ x ∈ big, ¬ @Eq Nat x.1 q.1) (h2 : ∀ q ∈ own, ¬ @Eq Nat q.1 LST) : OwnOff own (LST :: big.map (·.1)) := by
  intro q hq b hb e
  rcases List.mem_cons.mp hb with rfl | hb
  · exact h2 q hq e
  · obtain ⟨x, hx, rfl⟩ := List.mem_map.mp hb
    exact h q (.tail _ hq) x hx e.symm

theorem news_own {P : Prop} {h₀ h : Heap} {L : Addr} (pre : List (Addr × Obj)) {rest own big : List (Addr × Obj)} {x : Addr × Obj} {l : List Addr} (N : News h₀ L h (x :: ((pre ++ rest) ++ own))) (hne : ∀ q ∈ x :: own, ∀ y ∈ big, ¬ @Eq Nat y.1 q.1) (hl : ∀ b ∈ l, b ∈ big.map (·.1)) (hoff : OwnOff rest l)
    (k : ∀ restA, x ∈ restA → (∀ q ∈ rest, q ∈ restA) → (∀ q ∈ own, q ∈ restA) → News h₀ L h (pre ++ restA) → OwnOff restA l → P) : P := by
  refine k (x :: (rest ++ own)) (.head _) (fun q hq => .tail _ (List.mem_append_left _ hq)) (fun q hq => .tail _ (List.mem_append_right _ hq)) (fun q hq => N q ?_) (fun q hq b hb e => ?_)
  · rcases List.mem_append.mp hq with hq | hq
    · exact .tail _ (List.mem_append_left _ (List.mem_append_left _ hq))
    · rcases List.mem_cons.mp hq with rfl | hq
      · exact .head _
      · rcases List.mem_append.mp hq with hq | hq
        · exact .tail _ (List.mem_append_left _ (List.mem_append_right _ hq))
        · exact .tail _ (List.mem_append_right _ hq)
  · have hown : q ∈ x :: own → False := fun hq => by
      obtain ⟨y, hy, rfl⟩ := List.mem_map.mp (hl b hb)
      exact hne q hq y hy e.symm
    rcases List.mem_cons.mp hq with rfl | hq
    · exact hown (.head _)
    · rcases List.mem_append.mp hq with hq | hq
      · exact hoff q hq b hb e
      · exact hown (.tail _ hq)
theorem off_cons {q : Addr × Obj} {rest : List (Addr × Obj)} {l : List Addr} (h : ∀ b ∈ l, ¬ q.1 = b) (hr : OwnOff rest l) : OwnOff (q :: rest) l := fun x hx b hb => by
  rcases List.mem_cons.mp hx with rfl | hx
  · exact h b hb
  · exact hr x hx b hb
theorem ne_mid {l1 l2 : List Addr} {x : Addr} (h : (l1 ++ x :: l2).Nodup) : ∀ b ∈ l1 ++ l2, ¬ x = b := fun b hb e => by
  have h2 := (List.perm_middle.nodup_iff.mp h)
  exact (List.nodup_cons.mp h2).1 (e ▸ hb)

theorem law_tail {w : World} {sc : Scope} {body : List Stmt} {h₀ : Heap} {L a : Addr} {cN cW cK W dW C dC K dO dF dA PL SK CL : Addr} {m mg mb : Str → Option Value} {p : Program} {loose : List Str} {mean : ExcName → Option Value} {s : Shared} {Q : Flow → Shared → Prop} {E : Value → Shared → Prop}
  {oN oW oKc oK : Obj} {v0 : Option Value} {esW esC : List DictEntry} {nW nC nSK nCL : Nat} {rest : List (Addr × Obj)} {tk0 : Tok} {vs : List Value} {ns : List Int}
  (hbody : lawRest = some body) (hsc : lawScope = some sc)
  (B : Below callerA h₀ [] h₀) (F : Fr h₀ L s.heap m) (X : (hd.heap_1_39 w.params).In h₀) (T : Top p loose mean mg mb h₀) (hP : CodeHd h₀ 434 432) (hP1 : CodeHd h₀ 417 413) (hP2 : CodeHd h₀ 424 420)
  (N : News h₀ L s.heap ((SK, listOf #[.ref CL, .int 0 tk0] nSK) :: (CL, listOf vs.toArray nCL) :: (413, tabObj #[]) :: (420, tabObj #[]) :: (432, tabObj #[]) :: (cN, oN) :: (cW, oW) :: (cK, oKc) :: (W, instObj 386 dW) :: (dW, dictOf esW nW) :: (C, instObj 138 dC) :: (dC, dictOf esC nC) :: (K, oK) :: rest))
  (hmC : m "control" = some (.ref C)) (hmS : m "sack" = some (.ref SK)) (hi : IntsAre vs ns) (hlen : ns.length ≤ 63)
  (hoW : oW.data = .cell (some (.ref W))) (hoN : oN.data = .cell v0) (hoK : oKc.data = .cell (some (.ref K)))
  (hK : oK.IsDictOf (PySem.intKind RW.row.prog w) []) (loK : (K == sysModules) = false)
  (hw : WF dO dF dA esW) (hc : CF PL esC) (hx : CX w W dW C dC dO dF dA PL rest)
  (hoff : OwnOff rest [SK, CL, 413, 420, 432, cN, cW, cK, W, dW, C, dC, K]) (hnd : ([SK, CL, 413, 420, 432, cN, cW, cK, W, dW, C, dC, K] : List Addr).Nodup) (hE : PassesOwn (model RW.row.prog w) (callerA.deeper (envX "law" sc L a (.ref 434) [("world", cW), ("number", cN), ("known", cK)])) (envX "law" sc L a (.ref 434) [("world", cW), ("number", cN), ("known", cK)]) E)
  (hQ : ∀ h' tk m', Fr h₀ L h' m' → GrownAt 413 h' → GrownAt 420 h' → GrownAt 432 h' → Q (.ret (.bool true)) { s with heap := h', toks := tk }) :
  wpAny (model RW.row.prog w) (callerA.deeper (envX "law" sc L a (.ref 434) [("world", cW), ("number", cN), ("known", cK)])) (execs body (envX "law" sc L a (.ref 434) [("world", cW), ("number", cN), ("known", cK)])) Q E s := by
  have hnd0 := hnd
  refine nodup_ne13 hnd ?_
  intro n0_1 n0_2 n0_3 n0_4 n0_5 n0_6 n0_7 n0_8 n0_9 n0_10 n0_11 n0_12 n1_2 n1_3 n1_4 n1_5 n1_6 n1_7 n1_8 n1_9 n1_10 n1_11 n1_12 n2_3 n2_4 n2_5 n2_6 n2_7 n2_8 n2_9 n2_10 n2_11 n2_12 n3_4 n3_5 n3_6 n3_7 n3_8 n3_9 n3_10 n3_11 n3_12 n4_5 n4_6 n4_7 n4_8 n4_9 n4_10 n4_11 n4_12 n5_6 n5_7 n5_8 n5_9 n5_10 n5_11 n5_12 n6_7 n6_8 n6_9 n6_10 n6_11 n6_12 n7_8 n7_9 n7_10 n7_11 n7_12 n8_9 n8_10 n8_11 n8_12 n9_10 n9_11 n9_12 n10_11 n10_12 n11_12
  revert X; k_fill; intro X
  rw [show lawRest = some _ from rfl] at hbody
  rw [show lawScope = some _ from rfl] at hsc
  cases hbody
  cases hsc
  k_steps
  unfold Held
  refine' fi_K (C := C) ?B ?F ?X ?T rfl rfl ?hP ?N ?US ?UT ?mC ?mT ?hi ?hlen ?s1 ?s2 ?s3 ?_
  case B => assumption
  case F => k_asm
  case X => k_asm
  case T => k_asm
  case hP => assumption
  case N => k_asm
  case US => k_updF
  case UT => (intro o9; k_updF)
  case mC => k_mem
  case mT => k_mem
  case hi => assumption
  case hlen => assumption
  case s1 => exact (show ¬ @Eq Addr _ _ by first | assumption | (refine Ne.symm ?_; assumption))
  case s2 => exact (show ¬ @Eq Addr _ _ by first | assumption | (refine Ne.symm ?_; assumption))
  case s3 => exact (show ¬ @Eq Addr _ _ by first | assumption | (refine Ne.symm ?_; assumption))
  intro h1 tk1 LA oLA nLA ownA itsA oPA tA nA F1 N1 hcA hdA hitA hcodeA hneA hnlA
  refine news_own [(SK, listOf #[.ref CL, .int (0 + 1 + 1 + 1) tA] nA), (CL, listOf vs.toArray nCL), (413, tabObj oPA), (420, tabObj #[]), (432, tabObj #[]), (cN, oN), (cW, oW), (cK, oKc), (W, instObj 386 dW), (dW, dictOf esW nW), (C, instObj 138 dC), (dC, dictOf esC nC), (K, oK)] N1 hneA (fun b hb => List.mem_append_left (rest.map (·.1)) hb) hoff fun restA mLA sub1A sub2A NA hoffA => ?_
  clear N1 hneA hnlA
  (try dsimp only [List.cons_append, List.nil_append] at NA)
  k_steps
  unfold Held
  refine' ot_K ?B ?F ?X ?T rfl rfl ?hP ?N ?US ?UT ?mC ?mT ?hi ?hlen ?s1 ?s2 ?s3 ?_
  case B => assumption
  case F => k_asm
  case X => k_asm
  case T => k_asm
  case hP => assumption
  case N => k_asm
  case US => k_updF
  case UT => (intro o9; k_updF)
  case mC => k_mem
  case mT => k_mem
  case hi => assumption
  case hlen => assumption
  case s1 => exact (show ¬ @Eq Addr _ _ by first | assumption | (refine Ne.symm ?_; assumption))
  case s2 => exact (show ¬ @Eq Addr _ _ by first | assumption | (refine Ne.symm ?_; assumption))
  case s3 => exact (show ¬ @Eq Addr _ _ by first | assumption | (refine Ne.symm ?_; assumption))
  intro h2 tk2 LB oLB nLB ownB itsB oPB tB nB F2 N2 hcB hdB hitB hcodeB hneB hnlB
  refine news_own [(SK, listOf #[.ref CL, .int (0 + 1 + 1 + 1 + 1) tB] nB), (CL, listOf vs.toArray nCL), (413, tabObj oPA), (420, tabObj oPB), (432, tabObj #[]), (cN, oN), (cW, oW), (cK, oKc), (W, instObj 386 dW), (dW, dictOf esW nW), (C, instObj 138 dC), (dC, dictOf esC nC), (K, oK)] N2 hneB (fun b hb => List.mem_append_left (restA.map (·.1)) hb) hoffA fun restB mLB sub1B sub2B NB hoffB => ?_
  clear N2 hneB hnlB
  (try dsimp only [List.cons_append, List.nil_append] at NB)
  k_steps
  unfold Held
  rename News h₀ L _ _ => N3
  rename Fr h₀ L _ _ => F3
  refine add_ls F3 N3 ⟨oLA, (N3 (LA, oLA) (by repeat (first | exact sub1B _ mLA | refine .tail _ ?_))).1, hcA, _, hdA⟩ ⟨oLB, (N3 (LB, oLB) (by repeat (first | exact mLB | refine .tail _ ?_))).1, hcB, _, hdB⟩ List.map_append.symm ?_ ?_
  · have e1 := congrArg List.length hcodeA
    have e2 := congrArg List.length hcodeB
    simp only [List.length_map, List.length_cons, List.length_nil] at e1 e2
    rw [List.length_map, List.length_map, e1, e2, sizeLine_eq]
    decide
  intro LW oLW nR h5 hcL hdL ltW2 F5 N6
  k_steps
  unfold Held
  rename News h₀ L _ _ => N9
  rename Fr h₀ L _ _ => F9
  have subl : ∀ b ∈ ([SK, CL, 432, cN, cW, cK, W, dW, C, dC, K] : List Addr), b ∈ ([SK, CL, 413, 420, 432, cN, cW, cK, W, dW, C, dC, K] : List Addr) := fun b hb => List.Sublist.mem hb (.cons_cons _ (.cons_cons _ (.cons _ (.cons _ (List.Sublist.refl _)))))
  have hoffC : OwnOff ((LW, oLW) :: (413, tabObj oPA) :: (420, tabObj oPB) :: restB) [SK, CL, 432, cN, cW, cK, W, dW, C, dC, K] := by
    refine off_cons (fun b hb => ?_) (off_cons (fun b hb => ne_mid (l1 := [SK, CL]) hnd0 b (List.Sublist.mem hb (.cons_cons _ (.cons_cons _ (.cons _ (List.Sublist.refl _)))))) (off_cons (fun b hb => ne_mid (l1 := [SK, CL, 413]) hnd0 b (List.Sublist.mem hb (.cons_cons _ (.cons_cons _ (.cons _ (List.Sublist.refl _)))))) (fun q hq b hb => hoffB q hq b (subl b hb))))
    obtain ⟨y, hy, rfl⟩ := List.mem_map.mp (show b ∈ ([(SK, listOf #[.ref CL, .int (0 + 1 + 1 + 1 + 1) tB] nB), (CL, listOf vs.toArray nCL), (413, tabObj oPA), (420, tabObj oPB), (432, tabObj #[]), (cN, oN), (cW, oW), (cK, oKc), (W, instObj 386 dW), (dW, dictOf esW nW), (C, instObj 138 dC), (dC, dictOf esC nC), (K, oK)] ++ restB).map (·.1) from by rw [List.map_append]; exact List.mem_append_left _ (subl b hb))
    exact Nat.ne_of_gt (ltW2 y hy)
  have sub3 : ∀ q ∈ rest, q ∈ (LW, oLW) :: (413, tabObj oPA) :: (420, tabObj oPB) :: restB := fun q hq => .tail _ (.tail _ (.tail _ (sub1B q (sub1A q hq))))
  have N10 := pickN (news := (SK, listOf #[.ref CL, .int (0 + 1 + 1 + 1 + 1) tB] nB) :: (CL, listOf vs.toArray nCL) :: (432, tabObj #[]) :: (cN, oN) :: (cW, oW) :: (cK, oKc) :: (W, instObj 386 dW) :: (dW, dictOf esW nW) :: (C, instObj 138 dC) :: (dC, dictOf esC nC) :: (K, oK) :: ((LW, oLW) :: (413, tabObj oPA) :: (420, tabObj oPB) :: restB)) N9 (List.forall_mem_cons.mpr ⟨.tail _ (.head _), List.forall_mem_cons.mpr ⟨.tail _ (.tail _ (.head _)), List.forall_mem_cons.mpr ⟨.tail _ (.tail _ (.tail _ (.tail _ (.tail _ (.head _))))), List.forall_mem_cons.mpr ⟨.tail _ (.tail _ (.tail _ (.tail _ (.tail _ (.tail _ (.head _)))))), List.forall_mem_cons.mpr ⟨.tail _ (.tail _ (.tail _ (.tail _ (.tail _ (.tail _ (.tail _ (.head _))))))), List.forall_mem_cons.mpr ⟨.tail _ (.tail _ (.tail _ (.tail _ (.tail _ (.tail _ (.tail _ (.tail _ (.head _)))))))), List.forall_mem_cons.mpr ⟨.tail _ (.tail _ (.tail _ (.tail _ (.tail _ (.tail _ (.tail _ (.tail _ (.tail _ (.head _))))))))), List.forall_mem_cons.mpr ⟨.tail _ (.tail _ (.tail _ (.tail _ (.tail _ (.tail _ (.tail _ (.tail _ (.tail _ (.tail _ (.head _)))))))))), List.forall_mem_cons.mpr ⟨.tail _ (.tail _ (.tail _ (.tail _ (.tail _ (.tail _ (.tail _ (.tail _ (.tail _ (.tail _ (.tail _ (.head _))))))))))), List.forall_mem_cons.mpr ⟨.tail _ (.tail _ (.tail _ (.tail _ (.tail _ (.tail _ (.tail _ (.tail _ (.tail _ (.tail _ (.tail _ (.tail _ (.head _)))))))))))), List.forall_mem_cons.mpr ⟨.tail _ (.tail _ (.tail _ (.tail _ (.tail _ (.tail _ (.tail _ (.tail _ (.tail _ (.tail _ (.tail _ (.tail _ (.tail _ (.head _))))))))))))), List.forall_mem_cons.mpr ⟨.head _, List.forall_mem_cons.mpr ⟨.tail _ (.tail _ (.tail _ (.head _))), List.forall_mem_cons.mpr ⟨.tail _ (.tail _ (.tail _ (.tail _ (.head _)))), fun q hq => .tail _ (.tail _ (.tail _ (.tail _ (.tail _ (.tail _ (.tail _ (.tail _ (.tail _ (.tail _ (.tail _ (.tail _ (.tail _ (.tail _ (hq))))))))))))))⟩⟩⟩⟩⟩⟩⟩⟩⟩⟩⟩⟩⟩⟩)
  refine law_tail2 (body := _) (its := itsA ++ itsB) rfl rfl B F9 X T hP (rest := (LW, oLW) :: (413, tabObj oPA) :: (420, tabObj oPB) :: restB) N10 ?mC ?mS rfl hi hlen hoW hoN hoK hK loK (.head _) hcL hdL ?hits ?hcodes hw hc (hx.mono sub3 ?ne) hoffC (hnd0.sublist (.cons_cons _ (.cons_cons _ (.cons _ (.cons _ (List.Sublist.refl _)))))) hE ?_
  case mC => exact hmC
  case mS => exact hmS
  case hits =>
    intro i hi
    rcases List.mem_append.mp hi with hi | hi
    · exact (hitA C i hi).mono fun q hq => .tail _ (.tail _ (.tail _ (sub1B q (sub2A q hq))))
    · exact (hitB i hi).mono fun q hq => .tail _ (.tail _ (.tail _ (sub2B q hq)))
  case hcodes => rw [List.map_append, hcodeA, hcodeB]; rfl
  case ne => exact fun q hq => hoffC q hq dW (by repeat (first | exact .head _ | refine .tail _ ?_))
  exact fun h' tk m' F' g9 hr => hQ h' tk m' F' ⟨_, hr (413, tabObj oPA) (.tail _ (.head _))⟩ ⟨_, hr (420, tabObj oPB) (.tail _ (.tail _ (.head _)))⟩ g9
end
section
theorem w_V_in : True := by
  k_with_none
  trivial
open PySem.Calls PySem.Spec PyProof.Rows.LCg

theorem pw_cons {a b : Nat} {l : List Nat} (h : a < b) (t : (b :: l).Pairwise (· < ·)) : (a :: b :: l).Pairwise (· < ·) :=
  .cons (fun x hx => (List.mem_cons.mp hx).elim (fun e => e ▸ h) fun hx => Nat.lt_trans h ((List.pairwise_cons.mp t).1 x hx)) t
theorem pw_one {a : Nat} : ([a] : List Nat).Pairwise (· < ·) := List.pairwise_singleton _ _

theorem law_entry {w : World} {sc : Scope} {body : List Stmt} {h₀ : Heap} {L a : Addr} {cN cW cK W dW C dC K dO dF dA PL SK CL G dG HL d1 d2 d3 : Addr} {m mg mb : Str → Option Value} {p : Program} {loose : List Str} {mean : ExcName → Option Value} {s : Shared} {Q : Flow → Shared → Prop} {E : Value → Shared → Prop}
  {oN oW oKc oK oO oF oA o1 o2 o3 : Obj} {v0 : Option Value} {esW esC esG : List DictEntry} {nW nC nSK nCL nG cH cP : Nat} {tk0 th tgb tfB tfA tfC : Tok} {buf : Str} {vs : List Value} {ns : List Int} {x0 x1 x2 : Addr × Obj} {b1 b2 b3 b4 : List (Addr × Obj)}
  (hbody : lawRest = some body) (hsc : lawScope = some sc)
  (B : Below callerA h₀ [] h₀) (F : Fr h₀ L s.heap m) (X : (hd.heap_1_39 w.params).In h₀) (T : Top p loose mean mg mb h₀) (hP : CodeHd h₀ 434 432) (hP1 : CodeHd h₀ 417 413) (hP2 : CodeHd h₀ 424 420)
  (N : News h₀ L s.heap [(G, instObj 237 dG), (dG, dictOf esG nG), (HL, listOf #[.int 3 th] cH), x0, (d3, o3), (d2, o2), (d1, o1), x1, (K, oK), (PL, listOf #[] cP), (C, instObj 138 dC), (dC, dictOf esC nC), (W, instObj 386 dW), (dW, dictOf esW nW), (dO, oO), (dF, oF), x2, (dA, oA), (SK, listOf #[.ref CL, .int 0 tk0] nSK), (CL, listOf vs.toArray nCL), (cW, oW), (cN, oN), (cK, oKc), (420, tabObj #[]), (413, tabObj #[]), (432, tabObj #[])])
  (hmC : m "control" = some (.ref C)) (hmS : m "sack" = some (.ref SK)) (hi : IntsAre vs ns) (hlen : ns.length ≤ 63)
  (hoW : oW.data = .cell (some (.ref W))) (hoN : oN.data = .cell v0) (hoK : oKc.data = .cell (some (.ref K)))
  (hK : oK.IsDictOf (PySem.intKind RW.row.prog w) []) (loK : (K == sysModules) = false)
  (hw : WF dO dF dA esW) (hc : CF PL esC)
  (hO : oO.IsDictOf (PySem.intKind RW.row.prog w) [(1, .ref d1), (2, .ref d2), (3, .ref d3)]) (loO : (dO == sysModules) = false)
  (h1 : FileD w o1 "O" "A" 0 "") (lo1 : (d1 == sysModules) = false) (h2 : FileD w o2 "I" "B" 0 "") (lo2 : (d2 == sysModules) = false) (h3 : FileD w o3 "R" "C" 8 buf) (lo3 : (d3 == sysModules) = false)
  (hF : oF.IsDictOf (PySem.strKind RW.row.prog w) [("B", .str "" tfB), ("A", .str "" tfA), ("C", .str "" tfC)]) (loF : (dF == sysModules) = false)
  (hA : oA.IsDictOf (PySem.strKind RW.row.prog w) [("G", .ref G)]) (loA : (dA == sysModules) = false) (gHi : getL "highs" esG = some (some (.ref HL))) (gBs : getL "base" esG = some (some (.int 0 tgb)))
  (e1 : ∀ q ∈ b1, ¬ @Eq Nat q.1 d1) (i1 : (∀ x ∈ ([SK, CL, 413, 420, 432, cN, cW, cK, W, dW, C, dC, K] : List Addr), x ∈ b1.map (fun q : Addr × Obj => q.1))) (e2 : ∀ q ∈ b2, ¬ @Eq Nat q.1 d2) (i2 : (∀ x ∈ ([SK, CL, 413, 420, 432, cN, cW, cK, W, dW, C, dC, K] : List Addr), x ∈ b2.map (fun q : Addr × Obj => q.1))) (e3 : ∀ q ∈ b3, ¬ @Eq Nat q.1 d3) (i3 : (∀ x ∈ ([SK, CL, 413, 420, 432, cN, cW, cK, W, dW, C, dC, K] : List Addr), x ∈ b3.map (fun q : Addr × Obj => q.1))) (e4 : ∀ q ∈ b4, ¬ q.1 = G ∧ ¬ q.1 = dG ∧ ¬ q.1 = HL) (i4 : (∀ x ∈ ([SK, CL, 413, 420, 432, cN, cW, cK, W, dW, C, dC, K] : List Addr), x ∈ b4.map (fun q : Addr × Obj => q.1)))
  (r2 : @LT.lt Nat _ 432 cK) (r3 : @LT.lt Nat _ cK cN) (r4 : @LT.lt Nat _ cN cW) (r5 : @LT.lt Nat _ cW CL) (r6 : @LT.lt Nat _ CL SK) (r7 : @LT.lt Nat _ SK dW) (r8 : @LT.lt Nat _ dW W) (r9 : @LT.lt Nat _ W dA) (r10 : @LT.lt Nat _ dA dF) (r11 : @LT.lt Nat _ dF dO) (r12 : @LT.lt Nat _ dO dC) (r13 : @LT.lt Nat _ dC C) (r14 : @LT.lt Nat _ C PL) (r15 : @LT.lt Nat _ PL K)
  (hE : PassesOwn (model RW.row.prog w) (callerA.deeper (envX "law" sc L a (.ref 434) [("world", cW), ("number", cN), ("known", cK)])) (envX "law" sc L a (.ref 434) [("world", cW), ("number", cN), ("known", cK)]) E)
  (hQ : ∀ h' tk m', Fr h₀ L h' m' → GrownAt 413 h' → GrownAt 420 h' → GrownAt 432 h' → Q (.ret (.bool true)) { s with heap := h', toks := tk }) :
  wpAny (model RW.row.prog w) (callerA.deeper (envX "law" sc L a (.ref 434) [("world", cW), ("number", cN), ("known", cK)])) (execs body (envX "law" sc L a (.ref 434) [("world", cW), ("number", cN), ("known", cK)])) Q E s := by
  have hpw : ([413, 420, 432, cK, cN, cW, CL, SK, dW, W, dA, dF, dO, dC, C, PL, K] : List Nat).Pairwise (· < ·) := (pw_cons (Nat.le_of_ble_eq_true rfl) (pw_cons (Nat.le_of_ble_eq_true rfl) (pw_cons r2 (pw_cons r3 (pw_cons r4 (pw_cons r5 (pw_cons r6 (pw_cons r7 (pw_cons r8 (pw_cons r9 (pw_cons r10 (pw_cons r11 (pw_cons r12 (pw_cons r13 (pw_cons r14 (pw_cons r15 pw_one))))))))))))))))
  have pw : ∀ (i j : Nat) (hi : i < 17) (hj : j < 17), i < j → (([413, 420, 432, cK, cN, cW, CL, SK, dW, W, dA, dF, dO, dC, C, PL, K] : List Nat)[i]'hi) < (([413, 420, 432, cK, cN, cW, CL, SK, dW, W, dA, dF, dO, dC, C, PL, K] : List Nat)[j]'hj) := List.pairwise_iff_getElem.mp hpw
  have hoff : OwnOff [(G, instObj 237 dG), (dG, dictOf esG nG), (HL, listOf #[.int 3 th] cH), (d3, o3), (d2, o2), (d1, o1), (PL, listOf #[] cP), (dO, oO), (dF, oF), (dA, oA)] [SK, CL, 413, 420, 432, cN, cW, cK, W, dW, C, dC, K] := by
    have offD : ∀ (b : List (Addr × Obj)) (d : Addr), (∀ q ∈ b, ¬ @Eq Nat q.1 d) → (∀ x ∈ ([SK, CL, 413, 420, 432, cN, cW, cK, W, dW, C, dC, K] : List Addr), x ∈ b.map (fun q : Addr × Obj => q.1)) → ∀ x ∈ ([SK, CL, 413, 420, 432, cN, cW, cK, W, dW, C, dC, K] : List Addr), d ≠ x := fun b d e i x hx z => by
      obtain ⟨q, hq, rfl⟩ := List.mem_map.mp (i x hx)
      exact e q hq z.symm
    have offPL : ∀ x ∈ ([SK, CL, 413, 420, 432, cN, cW, cK, W, dW, C, dC, K] : List Addr), PL ≠ x := List.forall_mem_cons.mpr ⟨(Nat.ne_of_gt (pw 7 15 (Nat.le_of_ble_eq_true rfl) (Nat.le_of_ble_eq_true rfl) (Nat.le_of_ble_eq_true rfl))), List.forall_mem_cons.mpr ⟨(Nat.ne_of_gt (pw 6 15 (Nat.le_of_ble_eq_true rfl) (Nat.le_of_ble_eq_true rfl) (Nat.le_of_ble_eq_true rfl))), List.forall_mem_cons.mpr ⟨(Nat.ne_of_gt (pw 0 15 (Nat.le_of_ble_eq_true rfl) (Nat.le_of_ble_eq_true rfl) (Nat.le_of_ble_eq_true rfl))), List.forall_mem_cons.mpr ⟨(Nat.ne_of_gt (pw 1 15 (Nat.le_of_ble_eq_true rfl) (Nat.le_of_ble_eq_true rfl) (Nat.le_of_ble_eq_true rfl))), List.forall_mem_cons.mpr ⟨(Nat.ne_of_gt (pw 2 15 (Nat.le_of_ble_eq_true rfl) (Nat.le_of_ble_eq_true rfl) (Nat.le_of_ble_eq_true rfl))), List.forall_mem_cons.mpr ⟨(Nat.ne_of_gt (pw 4 15 (Nat.le_of_ble_eq_true rfl) (Nat.le_of_ble_eq_true rfl) (Nat.le_of_ble_eq_true rfl))), List.forall_mem_cons.mpr ⟨(Nat.ne_of_gt (pw 5 15 (Nat.le_of_ble_eq_true rfl) (Nat.le_of_ble_eq_true rfl) (Nat.le_of_ble_eq_true rfl))), List.forall_mem_cons.mpr ⟨(Nat.ne_of_gt (pw 3 15 (Nat.le_of_ble_eq_true rfl) (Nat.le_of_ble_eq_true rfl) (Nat.le_of_ble_eq_true rfl))), List.forall_mem_cons.mpr ⟨(Nat.ne_of_gt (pw 9 15 (Nat.le_of_ble_eq_true rfl) (Nat.le_of_ble_eq_true rfl) (Nat.le_of_ble_eq_true rfl))), List.forall_mem_cons.mpr ⟨(Nat.ne_of_gt (pw 8 15 (Nat.le_of_ble_eq_true rfl) (Nat.le_of_ble_eq_true rfl) (Nat.le_of_ble_eq_true rfl))), List.forall_mem_cons.mpr ⟨(Nat.ne_of_gt (pw 14 15 (Nat.le_of_ble_eq_true rfl) (Nat.le_of_ble_eq_true rfl) (Nat.le_of_ble_eq_true rfl))), List.forall_mem_cons.mpr ⟨(Nat.ne_of_gt (pw 13 15 (Nat.le_of_ble_eq_true rfl) (Nat.le_of_ble_eq_true rfl) (Nat.le_of_ble_eq_true rfl))), List.forall_mem_cons.mpr ⟨(Nat.ne_of_lt (pw 15 16 (Nat.le_of_ble_eq_true rfl) (Nat.le_of_ble_eq_true rfl) (Nat.le_of_ble_eq_true rfl))), List.forall_mem_nil _⟩⟩⟩⟩⟩⟩⟩⟩⟩⟩⟩⟩⟩
    have offdO : ∀ x ∈ ([SK, CL, 413, 420, 432, cN, cW, cK, W, dW, C, dC, K] : List Addr), dO ≠ x := List.forall_mem_cons.mpr ⟨(Nat.ne_of_gt (pw 7 12 (Nat.le_of_ble_eq_true rfl) (Nat.le_of_ble_eq_true rfl) (Nat.le_of_ble_eq_true rfl))), List.forall_mem_cons.mpr ⟨(Nat.ne_of_gt (pw 6 12 (Nat.le_of_ble_eq_true rfl) (Nat.le_of_ble_eq_true rfl) (Nat.le_of_ble_eq_true rfl))), List.forall_mem_cons.mpr ⟨(Nat.ne_of_gt (pw 0 12 (Nat.le_of_ble_eq_true rfl) (Nat.le_of_ble_eq_true rfl) (Nat.le_of_ble_eq_true rfl))), List.forall_mem_cons.mpr ⟨(Nat.ne_of_gt (pw 1 12 (Nat.le_of_ble_eq_true rfl) (Nat.le_of_ble_eq_true rfl) (Nat.le_of_ble_eq_true rfl))), List.forall_mem_cons.mpr ⟨(Nat.ne_of_gt (pw 2 12 (Nat.le_of_ble_eq_true rfl) (Nat.le_of_ble_eq_true rfl) (Nat.le_of_ble_eq_true rfl))), List.forall_mem_cons.mpr ⟨(Nat.ne_of_gt (pw 4 12 (Nat.le_of_ble_eq_true rfl) (Nat.le_of_ble_eq_true rfl) (Nat.le_of_ble_eq_true rfl))), List.forall_mem_cons.mpr ⟨(Nat.ne_of_gt (pw 5 12 (Nat.le_of_ble_eq_true rfl) (Nat.le_of_ble_eq_true rfl) (Nat.le_of_ble_eq_true rfl))), List.forall_mem_cons.mpr ⟨(Nat.ne_of_gt (pw 3 12 (Nat.le_of_ble_eq_true rfl) (Nat.le_of_ble_eq_true rfl) (Nat.le_of_ble_eq_true rfl))), List.forall_mem_cons.mpr ⟨(Nat.ne_of_gt (pw 9 12 (Nat.le_of_ble_eq_true rfl) (Nat.le_of_ble_eq_true rfl) (Nat.le_of_ble_eq_true rfl))), List.forall_mem_cons.mpr ⟨(Nat.ne_of_gt (pw 8 12 (Nat.le_of_ble_eq_true rfl) (Nat.le_of_ble_eq_true rfl) (Nat.le_of_ble_eq_true rfl))), List.forall_mem_cons.mpr ⟨(Nat.ne_of_lt (pw 12 14 (Nat.le_of_ble_eq_true rfl) (Nat.le_of_ble_eq_true rfl) (Nat.le_of_ble_eq_true rfl))), List.forall_mem_cons.mpr ⟨(Nat.ne_of_lt (pw 12 13 (Nat.le_of_ble_eq_true rfl) (Nat.le_of_ble_eq_true rfl) (Nat.le_of_ble_eq_true rfl))), List.forall_mem_cons.mpr ⟨(Nat.ne_of_lt (pw 12 16 (Nat.le_of_ble_eq_true rfl) (Nat.le_of_ble_eq_true rfl) (Nat.le_of_ble_eq_true rfl))), List.forall_mem_nil _⟩⟩⟩⟩⟩⟩⟩⟩⟩⟩⟩⟩⟩
    have offdF : ∀ x ∈ ([SK, CL, 413, 420, 432, cN, cW, cK, W, dW, C, dC, K] : List Addr), dF ≠ x := List.forall_mem_cons.mpr ⟨(Nat.ne_of_gt (pw 7 11 (Nat.le_of_ble_eq_true rfl) (Nat.le_of_ble_eq_true rfl) (Nat.le_of_ble_eq_true rfl))), List.forall_mem_cons.mpr ⟨(Nat.ne_of_gt (pw 6 11 (Nat.le_of_ble_eq_true rfl) (Nat.le_of_ble_eq_true rfl) (Nat.le_of_ble_eq_true rfl))), List.forall_mem_cons.mpr ⟨(Nat.ne_of_gt (pw 0 11 (Nat.le_of_ble_eq_true rfl) (Nat.le_of_ble_eq_true rfl) (Nat.le_of_ble_eq_true rfl))), List.forall_mem_cons.mpr ⟨(Nat.ne_of_gt (pw 1 11 (Nat.le_of_ble_eq_true rfl) (Nat.le_of_ble_eq_true rfl) (Nat.le_of_ble_eq_true rfl))), List.forall_mem_cons.mpr ⟨(Nat.ne_of_gt (pw 2 11 (Nat.le_of_ble_eq_true rfl) (Nat.le_of_ble_eq_true rfl) (Nat.le_of_ble_eq_true rfl))), List.forall_mem_cons.mpr ⟨(Nat.ne_of_gt (pw 4 11 (Nat.le_of_ble_eq_true rfl) (Nat.le_of_ble_eq_true rfl) (Nat.le_of_ble_eq_true rfl))), List.forall_mem_cons.mpr ⟨(Nat.ne_of_gt (pw 5 11 (Nat.le_of_ble_eq_true rfl) (Nat.le_of_ble_eq_true rfl) (Nat.le_of_ble_eq_true rfl))), List.forall_mem_cons.mpr ⟨(Nat.ne_of_gt (pw 3 11 (Nat.le_of_ble_eq_true rfl) (Nat.le_of_ble_eq_true rfl) (Nat.le_of_ble_eq_true rfl))), List.forall_mem_cons.mpr ⟨(Nat.ne_of_gt (pw 9 11 (Nat.le_of_ble_eq_true rfl) (Nat.le_of_ble_eq_true rfl) (Nat.le_of_ble_eq_true rfl))), List.forall_mem_cons.mpr ⟨(Nat.ne_of_gt (pw 8 11 (Nat.le_of_ble_eq_true rfl) (Nat.le_of_ble_eq_true rfl) (Nat.le_of_ble_eq_true rfl))), List.forall_mem_cons.mpr ⟨(Nat.ne_of_lt (pw 11 14 (Nat.le_of_ble_eq_true rfl) (Nat.le_of_ble_eq_true rfl) (Nat.le_of_ble_eq_true rfl))), List.forall_mem_cons.mpr ⟨(Nat.ne_of_lt (pw 11 13 (Nat.le_of_ble_eq_true rfl) (Nat.le_of_ble_eq_true rfl) (Nat.le_of_ble_eq_true rfl))), List.forall_mem_cons.mpr ⟨(Nat.ne_of_lt (pw 11 16 (Nat.le_of_ble_eq_true rfl) (Nat.le_of_ble_eq_true rfl) (Nat.le_of_ble_eq_true rfl))), List.forall_mem_nil _⟩⟩⟩⟩⟩⟩⟩⟩⟩⟩⟩⟩⟩
    have offdA : ∀ x ∈ ([SK, CL, 413, 420, 432, cN, cW, cK, W, dW, C, dC, K] : List Addr), dA ≠ x := List.forall_mem_cons.mpr ⟨(Nat.ne_of_gt (pw 7 10 (Nat.le_of_ble_eq_true rfl) (Nat.le_of_ble_eq_true rfl) (Nat.le_of_ble_eq_true rfl))), List.forall_mem_cons.mpr ⟨(Nat.ne_of_gt (pw 6 10 (Nat.le_of_ble_eq_true rfl) (Nat.le_of_ble_eq_true rfl) (Nat.le_of_ble_eq_true rfl))), List.forall_mem_cons.mpr ⟨(Nat.ne_of_gt (pw 0 10 (Nat.le_of_ble_eq_true rfl) (Nat.le_of_ble_eq_true rfl) (Nat.le_of_ble_eq_true rfl))), List.forall_mem_cons.mpr ⟨(Nat.ne_of_gt (pw 1 10 (Nat.le_of_ble_eq_true rfl) (Nat.le_of_ble_eq_true rfl) (Nat.le_of_ble_eq_true rfl))), List.forall_mem_cons.mpr ⟨(Nat.ne_of_gt (pw 2 10 (Nat.le_of_ble_eq_true rfl) (Nat.le_of_ble_eq_true rfl) (Nat.le_of_ble_eq_true rfl))), List.forall_mem_cons.mpr ⟨(Nat.ne_of_gt (pw 4 10 (Nat.le_of_ble_eq_true rfl) (Nat.le_of_ble_eq_true rfl) (Nat.le_of_ble_eq_true rfl))), List.forall_mem_cons.mpr ⟨(Nat.ne_of_gt (pw 5 10 (Nat.le_of_ble_eq_true rfl) (Nat.le_of_ble_eq_true rfl) (Nat.le_of_ble_eq_true rfl))), List.forall_mem_cons.mpr ⟨(Nat.ne_of_gt (pw 3 10 (Nat.le_of_ble_eq_true rfl) (Nat.le_of_ble_eq_true rfl) (Nat.le_of_ble_eq_true rfl))), List.forall_mem_cons.mpr ⟨(Nat.ne_of_gt (pw 9 10 (Nat.le_of_ble_eq_true rfl) (Nat.le_of_ble_eq_true rfl) (Nat.le_of_ble_eq_true rfl))), List.forall_mem_cons.mpr ⟨(Nat.ne_of_gt (pw 8 10 (Nat.le_of_ble_eq_true rfl) (Nat.le_of_ble_eq_true rfl) (Nat.le_of_ble_eq_true rfl))), List.forall_mem_cons.mpr ⟨(Nat.ne_of_lt (pw 10 14 (Nat.le_of_ble_eq_true rfl) (Nat.le_of_ble_eq_true rfl) (Nat.le_of_ble_eq_true rfl))), List.forall_mem_cons.mpr ⟨(Nat.ne_of_lt (pw 10 13 (Nat.le_of_ble_eq_true rfl) (Nat.le_of_ble_eq_true rfl) (Nat.le_of_ble_eq_true rfl))), List.forall_mem_cons.mpr ⟨(Nat.ne_of_lt (pw 10 16 (Nat.le_of_ble_eq_true rfl) (Nat.le_of_ble_eq_true rfl) (Nat.le_of_ble_eq_true rfl))), List.forall_mem_nil _⟩⟩⟩⟩⟩⟩⟩⟩⟩⟩⟩⟩⟩
    intro q hq
    simp only [List.mem_cons, List.not_mem_nil, or_false] at hq
    rcases hq with rfl | rfl | rfl | rfl | rfl | rfl | rfl | rfl | rfl | rfl
    · exact offD b4 G (fun q hq => (e4 q hq).1) i4
    · exact offD b4 dG (fun q hq => (e4 q hq).2.1) i4
    · exact offD b4 HL (fun q hq => (e4 q hq).2.2) i4
    · exact offD b3 d3 e3 i3
    · exact offD b2 d2 e2 i2
    · exact offD b1 d1 e1 i1
    · exact offPL
    · exact offdO
    · exact offdF
    · exact offdA
  have hnd : ([SK, CL, 413, 420, 432, cN, cW, cK, W, dW, C, dC, K] : List Addr).Nodup := .cons (List.forall_mem_cons.mpr ⟨(Nat.ne_of_gt (pw 6 7 (Nat.le_of_ble_eq_true rfl) (Nat.le_of_ble_eq_true rfl) (Nat.le_of_ble_eq_true rfl))), List.forall_mem_cons.mpr ⟨(Nat.ne_of_gt (pw 0 7 (Nat.le_of_ble_eq_true rfl) (Nat.le_of_ble_eq_true rfl) (Nat.le_of_ble_eq_true rfl))), List.forall_mem_cons.mpr ⟨(Nat.ne_of_gt (pw 1 7 (Nat.le_of_ble_eq_true rfl) (Nat.le_of_ble_eq_true rfl) (Nat.le_of_ble_eq_true rfl))), List.forall_mem_cons.mpr ⟨(Nat.ne_of_gt (pw 2 7 (Nat.le_of_ble_eq_true rfl) (Nat.le_of_ble_eq_true rfl) (Nat.le_of_ble_eq_true rfl))), List.forall_mem_cons.mpr ⟨(Nat.ne_of_gt (pw 4 7 (Nat.le_of_ble_eq_true rfl) (Nat.le_of_ble_eq_true rfl) (Nat.le_of_ble_eq_true rfl))), List.forall_mem_cons.mpr ⟨(Nat.ne_of_gt (pw 5 7 (Nat.le_of_ble_eq_true rfl) (Nat.le_of_ble_eq_true rfl) (Nat.le_of_ble_eq_true rfl))), List.forall_mem_cons.mpr ⟨(Nat.ne_of_gt (pw 3 7 (Nat.le_of_ble_eq_true rfl) (Nat.le_of_ble_eq_true rfl) (Nat.le_of_ble_eq_true rfl))), List.forall_mem_cons.mpr ⟨(Nat.ne_of_lt (pw 7 9 (Nat.le_of_ble_eq_true rfl) (Nat.le_of_ble_eq_true rfl) (Nat.le_of_ble_eq_true rfl))), List.forall_mem_cons.mpr ⟨(Nat.ne_of_lt (pw 7 8 (Nat.le_of_ble_eq_true rfl) (Nat.le_of_ble_eq_true rfl) (Nat.le_of_ble_eq_true rfl))), List.forall_mem_cons.mpr ⟨(Nat.ne_of_lt (pw 7 14 (Nat.le_of_ble_eq_true rfl) (Nat.le_of_ble_eq_true rfl) (Nat.le_of_ble_eq_true rfl))), List.forall_mem_cons.mpr ⟨(Nat.ne_of_lt (pw 7 13 (Nat.le_of_ble_eq_true rfl) (Nat.le_of_ble_eq_true rfl) (Nat.le_of_ble_eq_true rfl))), List.forall_mem_cons.mpr ⟨(Nat.ne_of_lt (pw 7 16 (Nat.le_of_ble_eq_true rfl) (Nat.le_of_ble_eq_true rfl) (Nat.le_of_ble_eq_true rfl))), List.forall_mem_nil _⟩⟩⟩⟩⟩⟩⟩⟩⟩⟩⟩⟩) (.cons (List.forall_mem_cons.mpr ⟨(Nat.ne_of_gt (pw 0 6 (Nat.le_of_ble_eq_true rfl) (Nat.le_of_ble_eq_true rfl) (Nat.le_of_ble_eq_true rfl))), List.forall_mem_cons.mpr ⟨(Nat.ne_of_gt (pw 1 6 (Nat.le_of_ble_eq_true rfl) (Nat.le_of_ble_eq_true rfl) (Nat.le_of_ble_eq_true rfl))), List.forall_mem_cons.mpr ⟨(Nat.ne_of_gt (pw 2 6 (Nat.le_of_ble_eq_true rfl) (Nat.le_of_ble_eq_true rfl) (Nat.le_of_ble_eq_true rfl))), List.forall_mem_cons.mpr ⟨(Nat.ne_of_gt (pw 4 6 (Nat.le_of_ble_eq_true rfl) (Nat.le_of_ble_eq_true rfl) (Nat.le_of_ble_eq_true rfl))), List.forall_mem_cons.mpr ⟨(Nat.ne_of_gt (pw 5 6 (Nat.le_of_ble_eq_true rfl) (Nat.le_of_ble_eq_true rfl) (Nat.le_of_ble_eq_true rfl))), List.forall_mem_cons.mpr ⟨(Nat.ne_of_gt (pw 3 6 (Nat.le_of_ble_eq_true rfl) (Nat.le_of_ble_eq_true rfl) (Nat.le_of_ble_eq_true rfl))), List.forall_mem_cons.mpr ⟨(Nat.ne_of_lt (pw 6 9 (Nat.le_of_ble_eq_true rfl) (Nat.le_of_ble_eq_true rfl) (Nat.le_of_ble_eq_true rfl))), List.forall_mem_cons.mpr ⟨(Nat.ne_of_lt (pw 6 8 (Nat.le_of_ble_eq_true rfl) (Nat.le_of_ble_eq_true rfl) (Nat.le_of_ble_eq_true rfl))), List.forall_mem_cons.mpr ⟨(Nat.ne_of_lt (pw 6 14 (Nat.le_of_ble_eq_true rfl) (Nat.le_of_ble_eq_true rfl) (Nat.le_of_ble_eq_true rfl))), List.forall_mem_cons.mpr ⟨(Nat.ne_of_lt (pw 6 13 (Nat.le_of_ble_eq_true rfl) (Nat.le_of_ble_eq_true rfl) (Nat.le_of_ble_eq_true rfl))), List.forall_mem_cons.mpr ⟨(Nat.ne_of_lt (pw 6 16 (Nat.le_of_ble_eq_true rfl) (Nat.le_of_ble_eq_true rfl) (Nat.le_of_ble_eq_true rfl))), List.forall_mem_nil _⟩⟩⟩⟩⟩⟩⟩⟩⟩⟩⟩) (.cons (List.forall_mem_cons.mpr ⟨(Nat.ne_of_lt (pw 0 1 (Nat.le_of_ble_eq_true rfl) (Nat.le_of_ble_eq_true rfl) (Nat.le_of_ble_eq_true rfl))), List.forall_mem_cons.mpr ⟨(Nat.ne_of_lt (pw 0 2 (Nat.le_of_ble_eq_true rfl) (Nat.le_of_ble_eq_true rfl) (Nat.le_of_ble_eq_true rfl))), List.forall_mem_cons.mpr ⟨(Nat.ne_of_lt (pw 0 4 (Nat.le_of_ble_eq_true rfl) (Nat.le_of_ble_eq_true rfl) (Nat.le_of_ble_eq_true rfl))), List.forall_mem_cons.mpr ⟨(Nat.ne_of_lt (pw 0 5 (Nat.le_of_ble_eq_true rfl) (Nat.le_of_ble_eq_true rfl) (Nat.le_of_ble_eq_true rfl))), List.forall_mem_cons.mpr ⟨(Nat.ne_of_lt (pw 0 3 (Nat.le_of_ble_eq_true rfl) (Nat.le_of_ble_eq_true rfl) (Nat.le_of_ble_eq_true rfl))), List.forall_mem_cons.mpr ⟨(Nat.ne_of_lt (pw 0 9 (Nat.le_of_ble_eq_true rfl) (Nat.le_of_ble_eq_true rfl) (Nat.le_of_ble_eq_true rfl))), List.forall_mem_cons.mpr ⟨(Nat.ne_of_lt (pw 0 8 (Nat.le_of_ble_eq_true rfl) (Nat.le_of_ble_eq_true rfl) (Nat.le_of_ble_eq_true rfl))), List.forall_mem_cons.mpr ⟨(Nat.ne_of_lt (pw 0 14 (Nat.le_of_ble_eq_true rfl) (Nat.le_of_ble_eq_true rfl) (Nat.le_of_ble_eq_true rfl))), List.forall_mem_cons.mpr ⟨(Nat.ne_of_lt (pw 0 13 (Nat.le_of_ble_eq_true rfl) (Nat.le_of_ble_eq_true rfl) (Nat.le_of_ble_eq_true rfl))), List.forall_mem_cons.mpr ⟨(Nat.ne_of_lt (pw 0 16 (Nat.le_of_ble_eq_true rfl) (Nat.le_of_ble_eq_true rfl) (Nat.le_of_ble_eq_true rfl))), List.forall_mem_nil _⟩⟩⟩⟩⟩⟩⟩⟩⟩⟩) (.cons (List.forall_mem_cons.mpr ⟨(Nat.ne_of_lt (pw 1 2 (Nat.le_of_ble_eq_true rfl) (Nat.le_of_ble_eq_true rfl) (Nat.le_of_ble_eq_true rfl))), List.forall_mem_cons.mpr ⟨(Nat.ne_of_lt (pw 1 4 (Nat.le_of_ble_eq_true rfl) (Nat.le_of_ble_eq_true rfl) (Nat.le_of_ble_eq_true rfl))), List.forall_mem_cons.mpr ⟨(Nat.ne_of_lt (pw 1 5 (Nat.le_of_ble_eq_true rfl) (Nat.le_of_ble_eq_true rfl) (Nat.le_of_ble_eq_true rfl))), List.forall_mem_cons.mpr ⟨(Nat.ne_of_lt (pw 1 3 (Nat.le_of_ble_eq_true rfl) (Nat.le_of_ble_eq_true rfl) (Nat.le_of_ble_eq_true rfl))), List.forall_mem_cons.mpr ⟨(Nat.ne_of_lt (pw 1 9 (Nat.le_of_ble_eq_true rfl) (Nat.le_of_ble_eq_true rfl) (Nat.le_of_ble_eq_true rfl))), List.forall_mem_cons.mpr ⟨(Nat.ne_of_lt (pw 1 8 (Nat.le_of_ble_eq_true rfl) (Nat.le_of_ble_eq_true rfl) (Nat.le_of_ble_eq_true rfl))), List.forall_mem_cons.mpr ⟨(Nat.ne_of_lt (pw 1 14 (Nat.le_of_ble_eq_true rfl) (Nat.le_of_ble_eq_true rfl) (Nat.le_of_ble_eq_true rfl))), List.forall_mem_cons.mpr ⟨(Nat.ne_of_lt (pw 1 13 (Nat.le_of_ble_eq_true rfl) (Nat.le_of_ble_eq_true rfl) (Nat.le_of_ble_eq_true rfl))), List.forall_mem_cons.mpr ⟨(Nat.ne_of_lt (pw 1 16 (Nat.le_of_ble_eq_true rfl) (Nat.le_of_ble_eq_true rfl) (Nat.le_of_ble_eq_true rfl))), List.forall_mem_nil _⟩⟩⟩⟩⟩⟩⟩⟩⟩) (.cons (List.forall_mem_cons.mpr ⟨(Nat.ne_of_lt (pw 2 4 (Nat.le_of_ble_eq_true rfl) (Nat.le_of_ble_eq_true rfl) (Nat.le_of_ble_eq_true rfl))), List.forall_mem_cons.mpr ⟨(Nat.ne_of_lt (pw 2 5 (Nat.le_of_ble_eq_true rfl) (Nat.le_of_ble_eq_true rfl) (Nat.le_of_ble_eq_true rfl))), List.forall_mem_cons.mpr ⟨(Nat.ne_of_lt (pw 2 3 (Nat.le_of_ble_eq_true rfl) (Nat.le_of_ble_eq_true rfl) (Nat.le_of_ble_eq_true rfl))), List.forall_mem_cons.mpr ⟨(Nat.ne_of_lt (pw 2 9 (Nat.le_of_ble_eq_true rfl) (Nat.le_of_ble_eq_true rfl) (Nat.le_of_ble_eq_true rfl))), List.forall_mem_cons.mpr ⟨(Nat.ne_of_lt (pw 2 8 (Nat.le_of_ble_eq_true rfl) (Nat.le_of_ble_eq_true rfl) (Nat.le_of_ble_eq_true rfl))), List.forall_mem_cons.mpr ⟨(Nat.ne_of_lt (pw 2 14 (Nat.le_of_ble_eq_true rfl) (Nat.le_of_ble_eq_true rfl) (Nat.le_of_ble_eq_true rfl))), List.forall_mem_cons.mpr ⟨(Nat.ne_of_lt (pw 2 13 (Nat.le_of_ble_eq_true rfl) (Nat.le_of_ble_eq_true rfl) (Nat.le_of_ble_eq_true rfl))), List.forall_mem_cons.mpr ⟨(Nat.ne_of_lt (pw 2 16 (Nat.le_of_ble_eq_true rfl) (Nat.le_of_ble_eq_true rfl) (Nat.le_of_ble_eq_true rfl))), List.forall_mem_nil _⟩⟩⟩⟩⟩⟩⟩⟩) (.cons (List.forall_mem_cons.mpr ⟨(Nat.ne_of_lt (pw 4 5 (Nat.le_of_ble_eq_true rfl) (Nat.le_of_ble_eq_true rfl) (Nat.le_of_ble_eq_true rfl))), List.forall_mem_cons.mpr ⟨(Nat.ne_of_gt (pw 3 4 (Nat.le_of_ble_eq_true rfl) (Nat.le_of_ble_eq_true rfl) (Nat.le_of_ble_eq_true rfl))), List.forall_mem_cons.mpr ⟨(Nat.ne_of_lt (pw 4 9 (Nat.le_of_ble_eq_true rfl) (Nat.le_of_ble_eq_true rfl) (Nat.le_of_ble_eq_true rfl))), List.forall_mem_cons.mpr ⟨(Nat.ne_of_lt (pw 4 8 (Nat.le_of_ble_eq_true rfl) (Nat.le_of_ble_eq_true rfl) (Nat.le_of_ble_eq_true rfl))), List.forall_mem_cons.mpr ⟨(Nat.ne_of_lt (pw 4 14 (Nat.le_of_ble_eq_true rfl) (Nat.le_of_ble_eq_true rfl) (Nat.le_of_ble_eq_true rfl))), List.forall_mem_cons.mpr ⟨(Nat.ne_of_lt (pw 4 13 (Nat.le_of_ble_eq_true rfl) (Nat.le_of_ble_eq_true rfl) (Nat.le_of_ble_eq_true rfl))), List.forall_mem_cons.mpr ⟨(Nat.ne_of_lt (pw 4 16 (Nat.le_of_ble_eq_true rfl) (Nat.le_of_ble_eq_true rfl) (Nat.le_of_ble_eq_true rfl))), List.forall_mem_nil _⟩⟩⟩⟩⟩⟩⟩) (.cons (List.forall_mem_cons.mpr ⟨(Nat.ne_of_gt (pw 3 5 (Nat.le_of_ble_eq_true rfl) (Nat.le_of_ble_eq_true rfl) (Nat.le_of_ble_eq_true rfl))), List.forall_mem_cons.mpr ⟨(Nat.ne_of_lt (pw 5 9 (Nat.le_of_ble_eq_true rfl) (Nat.le_of_ble_eq_true rfl) (Nat.le_of_ble_eq_true rfl))), List.forall_mem_cons.mpr ⟨(Nat.ne_of_lt (pw 5 8 (Nat.le_of_ble_eq_true rfl) (Nat.le_of_ble_eq_true rfl) (Nat.le_of_ble_eq_true rfl))), List.forall_mem_cons.mpr ⟨(Nat.ne_of_lt (pw 5 14 (Nat.le_of_ble_eq_true rfl) (Nat.le_of_ble_eq_true rfl) (Nat.le_of_ble_eq_true rfl))), List.forall_mem_cons.mpr ⟨(Nat.ne_of_lt (pw 5 13 (Nat.le_of_ble_eq_true rfl) (Nat.le_of_ble_eq_true rfl) (Nat.le_of_ble_eq_true rfl))), List.forall_mem_cons.mpr ⟨(Nat.ne_of_lt (pw 5 16 (Nat.le_of_ble_eq_true rfl) (Nat.le_of_ble_eq_true rfl) (Nat.le_of_ble_eq_true rfl))), List.forall_mem_nil _⟩⟩⟩⟩⟩⟩) (.cons (List.forall_mem_cons.mpr ⟨(Nat.ne_of_lt (pw 3 9 (Nat.le_of_ble_eq_true rfl) (Nat.le_of_ble_eq_true rfl) (Nat.le_of_ble_eq_true rfl))), List.forall_mem_cons.mpr ⟨(Nat.ne_of_lt (pw 3 8 (Nat.le_of_ble_eq_true rfl) (Nat.le_of_ble_eq_true rfl) (Nat.le_of_ble_eq_true rfl))), List.forall_mem_cons.mpr ⟨(Nat.ne_of_lt (pw 3 14 (Nat.le_of_ble_eq_true rfl) (Nat.le_of_ble_eq_true rfl) (Nat.le_of_ble_eq_true rfl))), List.forall_mem_cons.mpr ⟨(Nat.ne_of_lt (pw 3 13 (Nat.le_of_ble_eq_true rfl) (Nat.le_of_ble_eq_true rfl) (Nat.le_of_ble_eq_true rfl))), List.forall_mem_cons.mpr ⟨(Nat.ne_of_lt (pw 3 16 (Nat.le_of_ble_eq_true rfl) (Nat.le_of_ble_eq_true rfl) (Nat.le_of_ble_eq_true rfl))), List.forall_mem_nil _⟩⟩⟩⟩⟩) (.cons (List.forall_mem_cons.mpr ⟨(Nat.ne_of_gt (pw 8 9 (Nat.le_of_ble_eq_true rfl) (Nat.le_of_ble_eq_true rfl) (Nat.le_of_ble_eq_true rfl))), List.forall_mem_cons.mpr ⟨(Nat.ne_of_lt (pw 9 14 (Nat.le_of_ble_eq_true rfl) (Nat.le_of_ble_eq_true rfl) (Nat.le_of_ble_eq_true rfl))), List.forall_mem_cons.mpr ⟨(Nat.ne_of_lt (pw 9 13 (Nat.le_of_ble_eq_true rfl) (Nat.le_of_ble_eq_true rfl) (Nat.le_of_ble_eq_true rfl))), List.forall_mem_cons.mpr ⟨(Nat.ne_of_lt (pw 9 16 (Nat.le_of_ble_eq_true rfl) (Nat.le_of_ble_eq_true rfl) (Nat.le_of_ble_eq_true rfl))), List.forall_mem_nil _⟩⟩⟩⟩) (.cons (List.forall_mem_cons.mpr ⟨(Nat.ne_of_lt (pw 8 14 (Nat.le_of_ble_eq_true rfl) (Nat.le_of_ble_eq_true rfl) (Nat.le_of_ble_eq_true rfl))), List.forall_mem_cons.mpr ⟨(Nat.ne_of_lt (pw 8 13 (Nat.le_of_ble_eq_true rfl) (Nat.le_of_ble_eq_true rfl) (Nat.le_of_ble_eq_true rfl))), List.forall_mem_cons.mpr ⟨(Nat.ne_of_lt (pw 8 16 (Nat.le_of_ble_eq_true rfl) (Nat.le_of_ble_eq_true rfl) (Nat.le_of_ble_eq_true rfl))), List.forall_mem_nil _⟩⟩⟩) (.cons (List.forall_mem_cons.mpr ⟨(Nat.ne_of_gt (pw 13 14 (Nat.le_of_ble_eq_true rfl) (Nat.le_of_ble_eq_true rfl) (Nat.le_of_ble_eq_true rfl))), List.forall_mem_cons.mpr ⟨(Nat.ne_of_lt (pw 14 16 (Nat.le_of_ble_eq_true rfl) (Nat.le_of_ble_eq_true rfl) (Nat.le_of_ble_eq_true rfl))), List.forall_mem_nil _⟩⟩) (.cons (List.forall_mem_cons.mpr ⟨(Nat.ne_of_lt (pw 13 16 (Nat.le_of_ble_eq_true rfl) (Nat.le_of_ble_eq_true rfl) (Nat.le_of_ble_eq_true rfl))), List.forall_mem_nil _⟩) (.cons (List.forall_mem_nil _) (.nil)))))))))))))
  have hx : CX w W dW C dC dO dF dA PL [(G, instObj 237 dG), (dG, dictOf esG nG), (HL, listOf #[.int 3 th] cH), (d3, o3), (d2, o2), (d1, o1), (PL, listOf #[] cP), (dO, oO), (dF, oF), (dA, oA)] := by
    refine ⟨⟨oO, d1, d2, d3, by k_mem, hO, loO, ⟨o1, by k_mem, h1, lo1⟩, ⟨o2, by k_mem, h2, lo2⟩, ⟨o3, buf, by k_mem, h3, lo3⟩⟩, ⟨oF, tfB, tfA, tfC, by k_mem, hF, loF⟩, ⟨oA, G, dG, HL, esG, nG, cH, th, tgb, by k_mem, hA, loA, by k_mem, by k_mem, by k_mem, gHi, gBs⟩, ⟨cP, by k_mem⟩, fun q hq => hoff q hq dW (by k_mem), (Nat.ne_of_gt (pw 8 9 (Nat.le_of_ble_eq_true rfl) (Nat.le_of_ble_eq_true rfl) (Nat.le_of_ble_eq_true rfl))), (Nat.ne_of_gt (pw 8 14 (Nat.le_of_ble_eq_true rfl) (Nat.le_of_ble_eq_true rfl) (Nat.le_of_ble_eq_true rfl))), (Nat.ne_of_gt (pw 8 13 (Nat.le_of_ble_eq_true rfl) (Nat.le_of_ble_eq_true rfl) (Nat.le_of_ble_eq_true rfl)))⟩
  have N2 := pickN (news := (SK, listOf #[.ref CL, .int 0 tk0] nSK) :: (CL, listOf vs.toArray nCL) :: (413, tabObj #[]) :: (420, tabObj #[]) :: (432, tabObj #[]) :: (cN, oN) :: (cW, oW) :: (cK, oKc) :: (W, instObj 386 dW) :: (dW, dictOf esW nW) :: (C, instObj 138 dC) :: (dC, dictOf esC nC) :: (K, oK) :: [(G, instObj 237 dG), (dG, dictOf esG nG), (HL, listOf #[.int 3 th] cH), (d3, o3), (d2, o2), (d1, o1), (PL, listOf #[] cP), (dO, oO), (dF, oF), (dA, oA)]) N (by
    repeat (refine List.forall_mem_cons.mpr ⟨by k_mem, ?_⟩)
    exact List.forall_mem_nil _)
  exact law_tail hbody hsc B F X T hP hP1 hP2 N2 hmC hmS hi hlen hoW hoN hoK hK loK hw hc hx hoff hnd hE hQ

theorem law_entry2 {w : World} {sc : Scope} {body : List Stmt} {h₀ : Heap} {L a : Addr} {cN cW cK W dW C dC K dO dF dA PL SK CL G dG HL d1 d2 d3 : Addr} {m mg mb : Str → Option Value} {p : Program} {loose : List Str} {mean : ExcName → Option Value} {s : Shared} {Q : Flow → Shared → Prop} {E : Value → Shared → Prop}
  {oN oW oKc oK oO oF oA o1 o2 o3 : Obj} {v0 : Option Value} {esW esC esG : List DictEntry} {nW nC nSK nCL nG cH cP : Nat} {tk0 th tgb tfB tfA tfC : Tok} {buf : Str} {vs : List Value} {ns : List Int} {x0 x2 : Addr × Obj} {rest0 : List (Addr × Obj)} {b1 b2 b3 b4 : List (Addr × Obj)}
  (hbody : lawRest = some body) (hsc : lawScope = some sc)
  (B : Below callerA h₀ [] h₀) (F : Fr h₀ L s.heap m) (X : (hd.heap_1_39 w.params).In h₀) (T : Top p loose mean mg mb h₀) (hP : CodeHd h₀ 434 432) (hP1 : CodeHd h₀ 417 413) (hP2 : CodeHd h₀ 424 420)
  (N : News h₀ L s.heap ((G, instObj 237 dG) :: (dG, dictOf esG nG) :: (HL, listOf #[.int 3 th] cH) :: x0 :: (d3, o3) :: (d2, o2) :: (d1, o1) :: (dO, oO) :: (dF, oF) :: (dA, oA) :: (W, instObj 386 dW) :: (dW, dictOf esW nW) :: x2 :: (cW, oW) :: rest0))
  (hmC : m "control" = some (.ref C)) (hmS : m "sack" = some (.ref SK)) (hi : IntsAre vs ns) (hlen : ns.length ≤ 63)
  (hoW : oW.data = .cell (some (.ref W))) (hoN : oN.data = .cell v0) (hoK : oKc.data = .cell (some (.ref K)))
  (hK : oK.IsDictOf (PySem.intKind RW.row.prog w) []) (loK : (K == sysModules) = false)
  (hw : WF dO dF dA esW) (hc : CF PL esC)
  (hO : oO.IsDictOf (PySem.intKind RW.row.prog w) [(1, .ref d1), (2, .ref d2), (3, .ref d3)]) (loO : (dO == sysModules) = false)
  (h1 : FileD w o1 "O" "A" 0 "") (lo1 : (d1 == sysModules) = false) (h2 : FileD w o2 "I" "B" 0 "") (lo2 : (d2 == sysModules) = false) (h3 : FileD w o3 "R" "C" 8 buf) (lo3 : (d3 == sysModules) = false)
  (hF : oF.IsDictOf (PySem.strKind RW.row.prog w) [("B", .str "" tfB), ("A", .str "" tfA), ("C", .str "" tfC)]) (loF : (dF == sysModules) = false)
  (hA : oA.IsDictOf (PySem.strKind RW.row.prog w) [("G", .ref G)]) (loA : (dA == sysModules) = false) (gHi : getL "highs" esG = some (some (.ref HL))) (gBs : getL "base" esG = some (some (.int 0 tgb)))
  (e1 : ∀ q ∈ b1, ¬ @Eq Nat q.1 d1) (i1 : (∀ x ∈ ([SK, CL, 413, 420, 432, cN, cW, cK, W, dW, C, dC, K] : List Addr), x ∈ b1.map (fun q : Addr × Obj => q.1))) (e2 : ∀ q ∈ b2, ¬ @Eq Nat q.1 d2) (i2 : (∀ x ∈ ([SK, CL, 413, 420, 432, cN, cW, cK, W, dW, C, dC, K] : List Addr), x ∈ b2.map (fun q : Addr × Obj => q.1))) (e3 : ∀ q ∈ b3, ¬ @Eq Nat q.1 d3) (i3 : (∀ x ∈ ([SK, CL, 413, 420, 432, cN, cW, cK, W, dW, C, dC, K] : List Addr), x ∈ b3.map (fun q : Addr × Obj => q.1))) (e4 : ∀ q ∈ b4, ¬ q.1 = G ∧ ¬ q.1 = dG ∧ ¬ q.1 = HL) (i4 : (∀ x ∈ ([SK, CL, 413, 420, 432, cN, cW, cK, W, dW, C, dC, K] : List Addr), x ∈ b4.map (fun q : Addr × Obj => q.1)))
  (mSK : (SK, listOf #[.ref CL, .int 0 tk0] nSK) ∈ rest0) (mCL : (CL, listOf vs.toArray nCL) ∈ rest0) (m413 : (413, tabObj #[]) ∈ rest0) (m420 : (420, tabObj #[]) ∈ rest0) (m432 : (432, tabObj #[]) ∈ rest0) (mcN : (cN, oN) ∈ rest0) (mcK : (cK, oKc) ∈ rest0) (mC : (C, instObj 138 dC) ∈ rest0) (mdC : (dC, dictOf esC nC) ∈ rest0) (mPL : (PL, listOf #[] cP) ∈ rest0) (mK : (K, oK) ∈ rest0)
  (hpw : ([413, 420, 432, cK, cN, cW, CL, SK, dW, W, dA, dF, dO, dC, C, PL, K] : List Nat).Pairwise (· < ·))
  (hE : PassesOwn (model RW.row.prog w) (callerA.deeper (envX "law" sc L a (.ref 434) [("world", cW), ("number", cN), ("known", cK)])) (envX "law" sc L a (.ref 434) [("world", cW), ("number", cN), ("known", cK)]) E)
  (hQ : ∀ h' tk m', Fr h₀ L h' m' → GrownAt 413 h' → GrownAt 420 h' → GrownAt 432 h' → Q (.ret (.bool true)) { s with heap := h', toks := tk }) :
  wpAny (model RW.row.prog w) (callerA.deeper (envX "law" sc L a (.ref 434) [("world", cW), ("number", cN), ("known", cK)])) (execs body (envX "law" sc L a (.ref 434) [("world", cW), ("number", cN), ("known", cK)])) Q E s := by
  have pw : ∀ (i j : Nat) (hi : i < 17) (hj : j < 17), i < j → (([413, 420, 432, cK, cN, cW, CL, SK, dW, W, dA, dF, dO, dC, C, PL, K] : List Nat)[i]'hi) < (([413, 420, 432, cK, cN, cW, CL, SK, dW, W, dA, dF, dO, dC, C, PL, K] : List Nat)[j]'hj) := List.pairwise_iff_getElem.mp hpw
  have hoff : OwnOff [(G, instObj 237 dG), (dG, dictOf esG nG), (HL, listOf #[.int 3 th] cH), (d3, o3), (d2, o2), (d1, o1), (PL, listOf #[] cP), (dO, oO), (dF, oF), (dA, oA)] [SK, CL, 413, 420, 432, cN, cW, cK, W, dW, C, dC, K] := by
    have offD : ∀ (b : List (Addr × Obj)) (d : Addr), (∀ q ∈ b, ¬ @Eq Nat q.1 d) → (∀ x ∈ ([SK, CL, 413, 420, 432, cN, cW, cK, W, dW, C, dC, K] : List Addr), x ∈ b.map (fun q : Addr × Obj => q.1)) → ∀ x ∈ ([SK, CL, 413, 420, 432, cN, cW, cK, W, dW, C, dC, K] : List Addr), d ≠ x := fun b d e i x hx z => by
      obtain ⟨q, hq, rfl⟩ := List.mem_map.mp (i x hx)
      exact e q hq z.symm
    have offPL : ∀ x ∈ ([SK, CL, 413, 420, 432, cN, cW, cK, W, dW, C, dC, K] : List Addr), PL ≠ x := List.forall_mem_cons.mpr ⟨(Nat.ne_of_gt (pw 7 15 (Nat.le_of_ble_eq_true rfl) (Nat.le_of_ble_eq_true rfl) (Nat.le_of_ble_eq_true rfl))), List.forall_mem_cons.mpr ⟨(Nat.ne_of_gt (pw 6 15 (Nat.le_of_ble_eq_true rfl) (Nat.le_of_ble_eq_true rfl) (Nat.le_of_ble_eq_true rfl))), List.forall_mem_cons.mpr ⟨(Nat.ne_of_gt (pw 0 15 (Nat.le_of_ble_eq_true rfl) (Nat.le_of_ble_eq_true rfl) (Nat.le_of_ble_eq_true rfl))), List.forall_mem_cons.mpr ⟨(Nat.ne_of_gt (pw 1 15 (Nat.le_of_ble_eq_true rfl) (Nat.le_of_ble_eq_true rfl) (Nat.le_of_ble_eq_true rfl))), List.forall_mem_cons.mpr ⟨(Nat.ne_of_gt (pw 2 15 (Nat.le_of_ble_eq_true rfl) (Nat.le_of_ble_eq_true rfl) (Nat.le_of_ble_eq_true rfl))), List.forall_mem_cons.mpr ⟨(Nat.ne_of_gt (pw 4 15 (Nat.le_of_ble_eq_true rfl) (Nat.le_of_ble_eq_true rfl) (Nat.le_of_ble_eq_true rfl))), List.forall_mem_cons.mpr ⟨(Nat.ne_of_gt (pw 5 15 (Nat.le_of_ble_eq_true rfl) (Nat.le_of_ble_eq_true rfl) (Nat.le_of_ble_eq_true rfl))), List.forall_mem_cons.mpr ⟨(Nat.ne_of_gt (pw 3 15 (Nat.le_of_ble_eq_true rfl) (Nat.le_of_ble_eq_true rfl) (Nat.le_of_ble_eq_true rfl))), List.forall_mem_cons.mpr ⟨(Nat.ne_of_gt (pw 9 15 (Nat.le_of_ble_eq_true rfl) (Nat.le_of_ble_eq_true rfl) (Nat.le_of_ble_eq_true rfl))), List.forall_mem_cons.mpr ⟨(Nat.ne_of_gt (pw 8 15 (Nat.le_of_ble_eq_true rfl) (Nat.le_of_ble_eq_true rfl) (Nat.le_of_ble_eq_true rfl))), List.forall_mem_cons.mpr ⟨(Nat.ne_of_gt (pw 14 15 (Nat.le_of_ble_eq_true rfl) (Nat.le_of_ble_eq_true rfl) (Nat.le_of_ble_eq_true rfl))), List.forall_mem_cons.mpr ⟨(Nat.ne_of_gt (pw 13 15 (Nat.le_of_ble_eq_true rfl) (Nat.le_of_ble_eq_true rfl) (Nat.le_of_ble_eq_true rfl))), List.forall_mem_cons.mpr ⟨(Nat.ne_of_lt (pw 15 16 (Nat.le_of_ble_eq_true rfl) (Nat.le_of_ble_eq_true rfl) (Nat.le_of_ble_eq_true rfl))), List.forall_mem_nil _⟩⟩⟩⟩⟩⟩⟩⟩⟩⟩⟩⟩⟩
    have offdO : ∀ x ∈ ([SK, CL, 413, 420, 432, cN, cW, cK, W, dW, C, dC, K] : List Addr), dO ≠ x := List.forall_mem_cons.mpr ⟨(Nat.ne_of_gt (pw 7 12 (Nat.le_of_ble_eq_true rfl) (Nat.le_of_ble_eq_true rfl) (Nat.le_of_ble_eq_true rfl))), List.forall_mem_cons.mpr ⟨(Nat.ne_of_gt (pw 6 12 (Nat.le_of_ble_eq_true rfl) (Nat.le_of_ble_eq_true rfl) (Nat.le_of_ble_eq_true rfl))), List.forall_mem_cons.mpr ⟨(Nat.ne_of_gt (pw 0 12 (Nat.le_of_ble_eq_true rfl) (Nat.le_of_ble_eq_true rfl) (Nat.le_of_ble_eq_true rfl))), List.forall_mem_cons.mpr ⟨(Nat.ne_of_gt (pw 1 12 (Nat.le_of_ble_eq_true rfl) (Nat.le_of_ble_eq_true rfl) (Nat.le_of_ble_eq_true rfl))), List.forall_mem_cons.mpr ⟨(Nat.ne_of_gt (pw 2 12 (Nat.le_of_ble_eq_true rfl) (Nat.le_of_ble_eq_true rfl) (Nat.le_of_ble_eq_true rfl))), List.forall_mem_cons.mpr ⟨(Nat.ne_of_gt (pw 4 12 (Nat.le_of_ble_eq_true rfl) (Nat.le_of_ble_eq_true rfl) (Nat.le_of_ble_eq_true rfl))), List.forall_mem_cons.mpr ⟨(Nat.ne_of_gt (pw 5 12 (Nat.le_of_ble_eq_true rfl) (Nat.le_of_ble_eq_true rfl) (Nat.le_of_ble_eq_true rfl))), List.forall_mem_cons.mpr ⟨(Nat.ne_of_gt (pw 3 12 (Nat.le_of_ble_eq_true rfl) (Nat.le_of_ble_eq_true rfl) (Nat.le_of_ble_eq_true rfl))), List.forall_mem_cons.mpr ⟨(Nat.ne_of_gt (pw 9 12 (Nat.le_of_ble_eq_true rfl) (Nat.le_of_ble_eq_true rfl) (Nat.le_of_ble_eq_true rfl))), List.forall_mem_cons.mpr ⟨(Nat.ne_of_gt (pw 8 12 (Nat.le_of_ble_eq_true rfl) (Nat.le_of_ble_eq_true rfl) (Nat.le_of_ble_eq_true rfl))), List.forall_mem_cons.mpr ⟨(Nat.ne_of_lt (pw 12 14 (Nat.le_of_ble_eq_true rfl) (Nat.le_of_ble_eq_true rfl) (Nat.le_of_ble_eq_true rfl))), List.forall_mem_cons.mpr ⟨(Nat.ne_of_lt (pw 12 13 (Nat.le_of_ble_eq_true rfl) (Nat.le_of_ble_eq_true rfl) (Nat.le_of_ble_eq_true rfl))), List.forall_mem_cons.mpr ⟨(Nat.ne_of_lt (pw 12 16 (Nat.le_of_ble_eq_true rfl) (Nat.le_of_ble_eq_true rfl) (Nat.le_of_ble_eq_true rfl))), List.forall_mem_nil _⟩⟩⟩⟩⟩⟩⟩⟩⟩⟩⟩⟩⟩
    have offdF : ∀ x ∈ ([SK, CL, 413, 420, 432, cN, cW, cK, W, dW, C, dC, K] : List Addr), dF ≠ x := List.forall_mem_cons.mpr ⟨(Nat.ne_of_gt (pw 7 11 (Nat.le_of_ble_eq_true rfl) (Nat.le_of_ble_eq_true rfl) (Nat.le_of_ble_eq_true rfl))), List.forall_mem_cons.mpr ⟨(Nat.ne_of_gt (pw 6 11 (Nat.le_of_ble_eq_true rfl) (Nat.le_of_ble_eq_true rfl) (Nat.le_of_ble_eq_true rfl))), List.forall_mem_cons.mpr ⟨(Nat.ne_of_gt (pw 0 11 (Nat.le_of_ble_eq_true rfl) (Nat.le_of_ble_eq_true rfl) (Nat.le_of_ble_eq_true rfl))), List.forall_mem_cons.mpr ⟨(Nat.ne_of_gt (pw 1 11 (Nat.le_of_ble_eq_true rfl) (Nat.le_of_ble_eq_true rfl) (Nat.le_of_ble_eq_true rfl))), List.forall_mem_cons.mpr ⟨(Nat.ne_of_gt (pw 2 11 (Nat.le_of_ble_eq_true rfl) (Nat.le_of_ble_eq_true rfl) (Nat.le_of_ble_eq_true rfl))), List.forall_mem_cons.mpr ⟨(Nat.ne_of_gt (pw 4 11 (Nat.le_of_ble_eq_true rfl) (Nat.le_of_ble_eq_true rfl) (Nat.le_of_ble_eq_true rfl))), List.forall_mem_cons.mpr ⟨(Nat.ne_of_gt (pw 5 11 (Nat.le_of_ble_eq_true rfl) (Nat.le_of_ble_eq_true rfl) (Nat.le_of_ble_eq_true rfl))), List.forall_mem_cons.mpr ⟨(Nat.ne_of_gt (pw 3 11 (Nat.le_of_ble_eq_true rfl) (Nat.le_of_ble_eq_true rfl) (Nat.le_of_ble_eq_true rfl))), List.forall_mem_cons.mpr ⟨(Nat.ne_of_gt (pw 9 11 (Nat.le_of_ble_eq_true rfl) (Nat.le_of_ble_eq_true rfl) (Nat.le_of_ble_eq_true rfl))), List.forall_mem_cons.mpr ⟨(Nat.ne_of_gt (pw 8 11 (Nat.le_of_ble_eq_true rfl) (Nat.le_of_ble_eq_true rfl) (Nat.le_of_ble_eq_true rfl))), List.forall_mem_cons.mpr ⟨(Nat.ne_of_lt (pw 11 14 (Nat.le_of_ble_eq_true rfl) (Nat.le_of_ble_eq_true rfl) (Nat.le_of_ble_eq_true rfl))), List.forall_mem_cons.mpr ⟨(Nat.ne_of_lt (pw 11 13 (Nat.le_of_ble_eq_true rfl) (Nat.le_of_ble_eq_true rfl) (Nat.le_of_ble_eq_true rfl))), List.forall_mem_cons.mpr ⟨(Nat.ne_of_lt (pw 11 16 (Nat.le_of_ble_eq_true rfl) (Nat.le_of_ble_eq_true rfl) (Nat.le_of_ble_eq_true rfl))), List.forall_mem_nil _⟩⟩⟩⟩⟩⟩⟩⟩⟩⟩⟩⟩⟩
    have offdA : ∀ x ∈ ([SK, CL, 413, 420, 432, cN, cW, cK, W, dW, C, dC, K] : List Addr), dA ≠ x := List.forall_mem_cons.mpr ⟨(Nat.ne_of_gt (pw 7 10 (Nat.le_of_ble_eq_true rfl) (Nat.le_of_ble_eq_true rfl) (Nat.le_of_ble_eq_true rfl))), List.forall_mem_cons.mpr ⟨(Nat.ne_of_gt (pw 6 10 (Nat.le_of_ble_eq_true rfl) (Nat.le_of_ble_eq_true rfl) (Nat.le_of_ble_eq_true rfl))), List.forall_mem_cons.mpr ⟨(Nat.ne_of_gt (pw 0 10 (Nat.le_of_ble_eq_true rfl) (Nat.le_of_ble_eq_true rfl) (Nat.le_of_ble_eq_true rfl))), List.forall_mem_cons.mpr ⟨(Nat.ne_of_gt (pw 1 10 (Nat.le_of_ble_eq_true rfl) (Nat.le_of_ble_eq_true rfl) (Nat.le_of_ble_eq_true rfl))), List.forall_mem_cons.mpr ⟨(Nat.ne_of_gt (pw 2 10 (Nat.le_of_ble_eq_true rfl) (Nat.le_of_ble_eq_true rfl) (Nat.le_of_ble_eq_true rfl))), List.forall_mem_cons.mpr ⟨(Nat.ne_of_gt (pw 4 10 (Nat.le_of_ble_eq_true rfl) (Nat.le_of_ble_eq_true rfl) (Nat.le_of_ble_eq_true rfl))), List.forall_mem_cons.mpr ⟨(Nat.ne_of_gt (pw 5 10 (Nat.le_of_ble_eq_true rfl) (Nat.le_of_ble_eq_true rfl) (Nat.le_of_ble_eq_true rfl))), List.forall_mem_cons.mpr ⟨(Nat.ne_of_gt (pw 3 10 (Nat.le_of_ble_eq_true rfl) (Nat.le_of_ble_eq_true rfl) (Nat.le_of_ble_eq_true rfl))), List.forall_mem_cons.mpr ⟨(Nat.ne_of_gt (pw 9 10 (Nat.le_of_ble_eq_true rfl) (Nat.le_of_ble_eq_true rfl) (Nat.le_of_ble_eq_true rfl))), List.forall_mem_cons.mpr ⟨(Nat.ne_of_gt (pw 8 10 (Nat.le_of_ble_eq_true rfl) (Nat.le_of_ble_eq_true rfl) (Nat.le_of_ble_eq_true rfl))), List.forall_mem_cons.mpr ⟨(Nat.ne_of_lt (pw 10 14 (Nat.le_of_ble_eq_true rfl) (Nat.le_of_ble_eq_true rfl) (Nat.le_of_ble_eq_true rfl))), List.forall_mem_cons.mpr ⟨(Nat.ne_of_lt (pw 10 13 (Nat.le_of_ble_eq_true rfl) (Nat.le_of_ble_eq_true rfl) (Nat.le_of_ble_eq_true rfl))), List.forall_mem_cons.mpr ⟨(Nat.ne_of_lt (pw 10 16 (Nat.le_of_ble_eq_true rfl) (Nat.le_of_ble_eq_true rfl) (Nat.le_of_ble_eq_true rfl))), List.forall_mem_nil _⟩⟩⟩⟩⟩⟩⟩⟩⟩⟩⟩⟩⟩
    intro q hq
    simp only [List.mem_cons, List.not_mem_nil, or_false] at hq
    rcases hq with rfl | rfl | rfl | rfl | rfl | rfl | rfl | rfl | rfl | rfl
    · exact offD b4 G (fun q hq => (e4 q hq).1) i4
    · exact offD b4 dG (fun q hq => (e4 q hq).2.1) i4
    · exact offD b4 HL (fun q hq => (e4 q hq).2.2) i4
    · exact offD b3 d3 e3 i3
    · exact offD b2 d2 e2 i2
    · exact offD b1 d1 e1 i1
    · exact offPL
    · exact offdO
    · exact offdF
    · exact offdA
  have hnd : ([SK, CL, 413, 420, 432, cN, cW, cK, W, dW, C, dC, K] : List Addr).Nodup := .cons (List.forall_mem_cons.mpr ⟨(Nat.ne_of_gt (pw 6 7 (Nat.le_of_ble_eq_true rfl) (Nat.le_of_ble_eq_true rfl) (Nat.le_of_ble_eq_true rfl))), List.forall_mem_cons.mpr ⟨(Nat.ne_of_gt (pw 0 7 (Nat.le_of_ble_eq_true rfl) (Nat.le_of_ble_eq_true rfl) (Nat.le_of_ble_eq_true rfl))), List.forall_mem_cons.mpr ⟨(Nat.ne_of_gt (pw 1 7 (Nat.le_of_ble_eq_true rfl) (Nat.le_of_ble_eq_true rfl) (Nat.le_of_ble_eq_true rfl))), List.forall_mem_cons.mpr ⟨(Nat.ne_of_gt (pw 2 7 (Nat.le_of_ble_eq_true rfl) (Nat.le_of_ble_eq_true rfl) (Nat.le_of_ble_eq_true rfl))), List.forall_mem_cons.mpr ⟨(Nat.ne_of_gt (pw 4 7 (Nat.le_of_ble_eq_true rfl) (Nat.le_of_ble_eq_true rfl) (Nat.le_of_ble_eq_true rfl))), List.forall_mem_cons.mpr ⟨(Nat.ne_of_gt (pw 5 7 (Nat.le_of_ble_eq_true rfl) (Nat.le_of_ble_eq_true rfl) (Nat.le_of_ble_eq_true rfl))), List.forall_mem_cons.mpr ⟨(Nat.ne_of_gt (pw 3 7 (Nat.le_of_ble_eq_true rfl) (Nat.le_of_ble_eq_true rfl) (Nat.le_of_ble_eq_true rfl))), List.forall_mem_cons.mpr ⟨(Nat.ne_of_lt (pw 7 9 (Nat.le_of_ble_eq_true rfl) (Nat.le_of_ble_eq_true rfl) (Nat.le_of_ble_eq_true rfl))), List.forall_mem_cons.mpr ⟨(Nat.ne_of_lt (pw 7 8 (Nat.le_of_ble_eq_true rfl) (Nat.le_of_ble_eq_true rfl) (Nat.le_of_ble_eq_true rfl))), List.forall_mem_cons.mpr ⟨(Nat.ne_of_lt (pw 7 14 (Nat.le_of_ble_eq_true rfl) (Nat.le_of_ble_eq_true rfl) (Nat.le_of_ble_eq_true rfl))), List.forall_mem_cons.mpr ⟨(Nat.ne_of_lt (pw 7 13 (Nat.le_of_ble_eq_true rfl) (Nat.le_of_ble_eq_true rfl) (Nat.le_of_ble_eq_true rfl))), List.forall_mem_cons.mpr ⟨(Nat.ne_of_lt (pw 7 16 (Nat.le_of_ble_eq_true rfl) (Nat.le_of_ble_eq_true rfl) (Nat.le_of_ble_eq_true rfl))), List.forall_mem_nil _⟩⟩⟩⟩⟩⟩⟩⟩⟩⟩⟩⟩) (.cons (List.forall_mem_cons.mpr ⟨(Nat.ne_of_gt (pw 0 6 (Nat.le_of_ble_eq_true rfl) (Nat.le_of_ble_eq_true rfl) (Nat.le_of_ble_eq_true rfl))), List.forall_mem_cons.mpr ⟨(Nat.ne_of_gt (pw 1 6 (Nat.le_of_ble_eq_true rfl) (Nat.le_of_ble_eq_true rfl) (Nat.le_of_ble_eq_true rfl))), List.forall_mem_cons.mpr ⟨(Nat.ne_of_gt (pw 2 6 (Nat.le_of_ble_eq_true rfl) (Nat.le_of_ble_eq_true rfl) (Nat.le_of_ble_eq_true rfl))), List.forall_mem_cons.mpr ⟨(Nat.ne_of_gt (pw 4 6 (Nat.le_of_ble_eq_true rfl) (Nat.le_of_ble_eq_true rfl) (Nat.le_of_ble_eq_true rfl))), List.forall_mem_cons.mpr ⟨(Nat.ne_of_gt (pw 5 6 (Nat.le_of_ble_eq_true rfl) (Nat.le_of_ble_eq_true rfl) (Nat.le_of_ble_eq_true rfl))), List.forall_mem_cons.mpr ⟨(Nat.ne_of_gt (pw 3 6 (Nat.le_of_ble_eq_true rfl) (Nat.le_of_ble_eq_true rfl) (Nat.le_of_ble_eq_true rfl))), List.forall_mem_cons.mpr ⟨(Nat.ne_of_lt (pw 6 9 (Nat.le_of_ble_eq_true rfl) (Nat.le_of_ble_eq_true rfl) (Nat.le_of_ble_eq_true rfl))), List.forall_mem_cons.mpr ⟨(Nat.ne_of_lt (pw 6 8 (Nat.le_of_ble_eq_true rfl) (Nat.le_of_ble_eq_true rfl) (Nat.le_of_ble_eq_true rfl))), List.forall_mem_cons.mpr ⟨(Nat.ne_of_lt (pw 6 14 (Nat.le_of_ble_eq_true rfl) (Nat.le_of_ble_eq_true rfl) (Nat.le_of_ble_eq_true rfl))), List.forall_mem_cons.mpr ⟨(Nat.ne_of_lt (pw 6 13 (Nat.le_of_ble_eq_true rfl) (Nat.le_of_ble_eq_true rfl) (Nat.le_of_ble_eq_true rfl))), List.forall_mem_cons.mpr ⟨(Nat.ne_of_lt (pw 6 16 (Nat.le_of_ble_eq_true rfl) (Nat.le_of_ble_eq_true rfl) (Nat.le_of_ble_eq_true rfl))), List.forall_mem_nil _⟩⟩⟩⟩⟩⟩⟩⟩⟩⟩⟩) (.cons (List.forall_mem_cons.mpr ⟨(Nat.ne_of_lt (pw 0 1 (Nat.le_of_ble_eq_true rfl) (Nat.le_of_ble_eq_true rfl) (Nat.le_of_ble_eq_true rfl))), List.forall_mem_cons.mpr ⟨(Nat.ne_of_lt (pw 0 2 (Nat.le_of_ble_eq_true rfl) (Nat.le_of_ble_eq_true rfl) (Nat.le_of_ble_eq_true rfl))), List.forall_mem_cons.mpr ⟨(Nat.ne_of_lt (pw 0 4 (Nat.le_of_ble_eq_true rfl) (Nat.le_of_ble_eq_true rfl) (Nat.le_of_ble_eq_true rfl))), List.forall_mem_cons.mpr ⟨(Nat.ne_of_lt (pw 0 5 (Nat.le_of_ble_eq_true rfl) (Nat.le_of_ble_eq_true rfl) (Nat.le_of_ble_eq_true rfl))), List.forall_mem_cons.mpr ⟨(Nat.ne_of_lt (pw 0 3 (Nat.le_of_ble_eq_true rfl) (Nat.le_of_ble_eq_true rfl) (Nat.le_of_ble_eq_true rfl))), List.forall_mem_cons.mpr ⟨(Nat.ne_of_lt (pw 0 9 (Nat.le_of_ble_eq_true rfl) (Nat.le_of_ble_eq_true rfl) (Nat.le_of_ble_eq_true rfl))), List.forall_mem_cons.mpr ⟨(Nat.ne_of_lt (pw 0 8 (Nat.le_of_ble_eq_true rfl) (Nat.le_of_ble_eq_true rfl) (Nat.le_of_ble_eq_true rfl))), List.forall_mem_cons.mpr ⟨(Nat.ne_of_lt (pw 0 14 (Nat.le_of_ble_eq_true rfl) (Nat.le_of_ble_eq_true rfl) (Nat.le_of_ble_eq_true rfl))), List.forall_mem_cons.mpr ⟨(Nat.ne_of_lt (pw 0 13 (Nat.le_of_ble_eq_true rfl) (Nat.le_of_ble_eq_true rfl) (Nat.le_of_ble_eq_true rfl))), List.forall_mem_cons.mpr ⟨(Nat.ne_of_lt (pw 0 16 (Nat.le_of_ble_eq_true rfl) (Nat.le_of_ble_eq_true rfl) (Nat.le_of_ble_eq_true rfl))), List.forall_mem_nil _⟩⟩⟩⟩⟩⟩⟩⟩⟩⟩) (.cons (List.forall_mem_cons.mpr ⟨(Nat.ne_of_lt (pw 1 2 (Nat.le_of_ble_eq_true rfl) (Nat.le_of_ble_eq_true rfl) (Nat.le_of_ble_eq_true rfl))), List.forall_mem_cons.mpr ⟨(Nat.ne_of_lt (pw 1 4 (Nat.le_of_ble_eq_true rfl) (Nat.le_of_ble_eq_true rfl) (Nat.le_of_ble_eq_true rfl))), List.forall_mem_cons.mpr ⟨(Nat.ne_of_lt (pw 1 5 (Nat.le_of_ble_eq_true rfl) (Nat.le_of_ble_eq_true rfl) (Nat.le_of_ble_eq_true rfl))), List.forall_mem_cons.mpr ⟨(Nat.ne_of_lt (pw 1 3 (Nat.le_of_ble_eq_true rfl) (Nat.le_of_ble_eq_true rfl) (Nat.le_of_ble_eq_true rfl))), List.forall_mem_cons.mpr ⟨(Nat.ne_of_lt (pw 1 9 (Nat.le_of_ble_eq_true rfl) (Nat.le_of_ble_eq_true rfl) (Nat.le_of_ble_eq_true rfl))), List.forall_mem_cons.mpr ⟨(Nat.ne_of_lt (pw 1 8 (Nat.le_of_ble_eq_true rfl) (Nat.le_of_ble_eq_true rfl) (Nat.le_of_ble_eq_true rfl))), List.forall_mem_cons.mpr ⟨(Nat.ne_of_lt (pw 1 14 (Nat.le_of_ble_eq_true rfl) (Nat.le_of_ble_eq_true rfl) (Nat.le_of_ble_eq_true rfl))), List.forall_mem_cons.mpr ⟨(Nat.ne_of_lt (pw 1 13 (Nat.le_of_ble_eq_true rfl) (Nat.le_of_ble_eq_true rfl) (Nat.le_of_ble_eq_true rfl))), List.forall_mem_cons.mpr ⟨(Nat.ne_of_lt (pw 1 16 (Nat.le_of_ble_eq_true rfl) (Nat.le_of_ble_eq_true rfl) (Nat.le_of_ble_eq_true rfl))), List.forall_mem_nil _⟩⟩⟩⟩⟩⟩⟩⟩⟩) (.cons (List.forall_mem_cons.mpr ⟨(Nat.ne_of_lt (pw 2 4 (Nat.le_of_ble_eq_true rfl) (Nat.le_of_ble_eq_true rfl) (Nat.le_of_ble_eq_true rfl))), List.forall_mem_cons.mpr ⟨(Nat.ne_of_lt (pw 2 5 (Nat.le_of_ble_eq_true rfl) (Nat.le_of_ble_eq_true rfl) (Nat.le_of_ble_eq_true rfl))), List.forall_mem_cons.mpr ⟨(Nat.ne_of_lt (pw 2 3 (Nat.le_of_ble_eq_true rfl) (Nat.le_of_ble_eq_true rfl) (Nat.le_of_ble_eq_true rfl))), List.forall_mem_cons.mpr ⟨(Nat.ne_of_lt (pw 2 9 (Nat.le_of_ble_eq_true rfl) (Nat.le_of_ble_eq_true rfl) (Nat.le_of_ble_eq_true rfl))), List.forall_mem_cons.mpr ⟨(Nat.ne_of_lt (pw 2 8 (Nat.le_of_ble_eq_true rfl) (Nat.le_of_ble_eq_true rfl) (Nat.le_of_ble_eq_true rfl))), List.forall_mem_cons.mpr ⟨(Nat.ne_of_lt (pw 2 14 (Nat.le_of_ble_eq_true rfl) (Nat.le_of_ble_eq_true rfl) (Nat.le_of_ble_eq_true rfl))), List.forall_mem_cons.mpr ⟨(Nat.ne_of_lt (pw 2 13 (Nat.le_of_ble_eq_true rfl) (Nat.le_of_ble_eq_true rfl) (Nat.le_of_ble_eq_true rfl))), List.forall_mem_cons.mpr ⟨(Nat.ne_of_lt (pw 2 16 (Nat.le_of_ble_eq_true rfl) (Nat.le_of_ble_eq_true rfl) (Nat.le_of_ble_eq_true rfl))), List.forall_mem_nil _⟩⟩⟩⟩⟩⟩⟩⟩) (.cons (List.forall_mem_cons.mpr ⟨(Nat.ne_of_lt (pw 4 5 (Nat.le_of_ble_eq_true rfl) (Nat.le_of_ble_eq_true rfl) (Nat.le_of_ble_eq_true rfl))), List.forall_mem_cons.mpr ⟨(Nat.ne_of_gt (pw 3 4 (Nat.le_of_ble_eq_true rfl) (Nat.le_of_ble_eq_true rfl) (Nat.le_of_ble_eq_true rfl))), List.forall_mem_cons.mpr ⟨(Nat.ne_of_lt (pw 4 9 (Nat.le_of_ble_eq_true rfl) (Nat.le_of_ble_eq_true rfl) (Nat.le_of_ble_eq_true rfl))), List.forall_mem_cons.mpr ⟨(Nat.ne_of_lt (pw 4 8 (Nat.le_of_ble_eq_true rfl) (Nat.le_of_ble_eq_true rfl) (Nat.le_of_ble_eq_true rfl))), List.forall_mem_cons.mpr ⟨(Nat.ne_of_lt (pw 4 14 (Nat.le_of_ble_eq_true rfl) (Nat.le_of_ble_eq_true rfl) (Nat.le_of_ble_eq_true rfl))), List.forall_mem_cons.mpr ⟨(Nat.ne_of_lt (pw 4 13 (Nat.le_of_ble_eq_true rfl) (Nat.le_of_ble_eq_true rfl) (Nat.le_of_ble_eq_true rfl))), List.forall_mem_cons.mpr ⟨(Nat.ne_of_lt (pw 4 16 (Nat.le_of_ble_eq_true rfl) (Nat.le_of_ble_eq_true rfl) (Nat.le_of_ble_eq_true rfl))), List.forall_mem_nil _⟩⟩⟩⟩⟩⟩⟩) (.cons (List.forall_mem_cons.mpr ⟨(Nat.ne_of_gt (pw 3 5 (Nat.le_of_ble_eq_true rfl) (Nat.le_of_ble_eq_true rfl) (Nat.le_of_ble_eq_true rfl))), List.forall_mem_cons.mpr ⟨(Nat.ne_of_lt (pw 5 9 (Nat.le_of_ble_eq_true rfl) (Nat.le_of_ble_eq_true rfl) (Nat.le_of_ble_eq_true rfl))), List.forall_mem_cons.mpr ⟨(Nat.ne_of_lt (pw 5 8 (Nat.le_of_ble_eq_true rfl) (Nat.le_of_ble_eq_true rfl) (Nat.le_of_ble_eq_true rfl))), List.forall_mem_cons.mpr ⟨(Nat.ne_of_lt (pw 5 14 (Nat.le_of_ble_eq_true rfl) (Nat.le_of_ble_eq_true rfl) (Nat.le_of_ble_eq_true rfl))), List.forall_mem_cons.mpr ⟨(Nat.ne_of_lt (pw 5 13 (Nat.le_of_ble_eq_true rfl) (Nat.le_of_ble_eq_true rfl) (Nat.le_of_ble_eq_true rfl))), List.forall_mem_cons.mpr ⟨(Nat.ne_of_lt (pw 5 16 (Nat.le_of_ble_eq_true rfl) (Nat.le_of_ble_eq_true rfl) (Nat.le_of_ble_eq_true rfl))), List.forall_mem_nil _⟩⟩⟩⟩⟩⟩) (.cons (List.forall_mem_cons.mpr ⟨(Nat.ne_of_lt (pw 3 9 (Nat.le_of_ble_eq_true rfl) (Nat.le_of_ble_eq_true rfl) (Nat.le_of_ble_eq_true rfl))), List.forall_mem_cons.mpr ⟨(Nat.ne_of_lt (pw 3 8 (Nat.le_of_ble_eq_true rfl) (Nat.le_of_ble_eq_true rfl) (Nat.le_of_ble_eq_true rfl))), List.forall_mem_cons.mpr ⟨(Nat.ne_of_lt (pw 3 14 (Nat.le_of_ble_eq_true rfl) (Nat.le_of_ble_eq_true rfl) (Nat.le_of_ble_eq_true rfl))), List.forall_mem_cons.mpr ⟨(Nat.ne_of_lt (pw 3 13 (Nat.le_of_ble_eq_true rfl) (Nat.le_of_ble_eq_true rfl) (Nat.le_of_ble_eq_true rfl))), List.forall_mem_cons.mpr ⟨(Nat.ne_of_lt (pw 3 16 (Nat.le_of_ble_eq_true rfl) (Nat.le_of_ble_eq_true rfl) (Nat.le_of_ble_eq_true rfl))), List.forall_mem_nil _⟩⟩⟩⟩⟩) (.cons (List.forall_mem_cons.mpr ⟨(Nat.ne_of_gt (pw 8 9 (Nat.le_of_ble_eq_true rfl) (Nat.le_of_ble_eq_true rfl) (Nat.le_of_ble_eq_true rfl))), List.forall_mem_cons.mpr ⟨(Nat.ne_of_lt (pw 9 14 (Nat.le_of_ble_eq_true rfl) (Nat.le_of_ble_eq_true rfl) (Nat.le_of_ble_eq_true rfl))), List.forall_mem_cons.mpr ⟨(Nat.ne_of_lt (pw 9 13 (Nat.le_of_ble_eq_true rfl) (Nat.le_of_ble_eq_true rfl) (Nat.le_of_ble_eq_true rfl))), List.forall_mem_cons.mpr ⟨(Nat.ne_of_lt (pw 9 16 (Nat.le_of_ble_eq_true rfl) (Nat.le_of_ble_eq_true rfl) (Nat.le_of_ble_eq_true rfl))), List.forall_mem_nil _⟩⟩⟩⟩) (.cons (List.forall_mem_cons.mpr ⟨(Nat.ne_of_lt (pw 8 14 (Nat.le_of_ble_eq_true rfl) (Nat.le_of_ble_eq_true rfl) (Nat.le_of_ble_eq_true rfl))), List.forall_mem_cons.mpr ⟨(Nat.ne_of_lt (pw 8 13 (Nat.le_of_ble_eq_true rfl) (Nat.le_of_ble_eq_true rfl) (Nat.le_of_ble_eq_true rfl))), List.forall_mem_cons.mpr ⟨(Nat.ne_of_lt (pw 8 16 (Nat.le_of_ble_eq_true rfl) (Nat.le_of_ble_eq_true rfl) (Nat.le_of_ble_eq_true rfl))), List.forall_mem_nil _⟩⟩⟩) (.cons (List.forall_mem_cons.mpr ⟨(Nat.ne_of_gt (pw 13 14 (Nat.le_of_ble_eq_true rfl) (Nat.le_of_ble_eq_true rfl) (Nat.le_of_ble_eq_true rfl))), List.forall_mem_cons.mpr ⟨(Nat.ne_of_lt (pw 14 16 (Nat.le_of_ble_eq_true rfl) (Nat.le_of_ble_eq_true rfl) (Nat.le_of_ble_eq_true rfl))), List.forall_mem_nil _⟩⟩) (.cons (List.forall_mem_cons.mpr ⟨(Nat.ne_of_lt (pw 13 16 (Nat.le_of_ble_eq_true rfl) (Nat.le_of_ble_eq_true rfl) (Nat.le_of_ble_eq_true rfl))), List.forall_mem_nil _⟩) (.cons (List.forall_mem_nil _) (.nil)))))))))))))
  have hx : CX w W dW C dC dO dF dA PL [(G, instObj 237 dG), (dG, dictOf esG nG), (HL, listOf #[.int 3 th] cH), (d3, o3), (d2, o2), (d1, o1), (PL, listOf #[] cP), (dO, oO), (dF, oF), (dA, oA)] := by
    refine ⟨⟨oO, d1, d2, d3, by k_mem, hO, loO, ⟨o1, by k_mem, h1, lo1⟩, ⟨o2, by k_mem, h2, lo2⟩, ⟨o3, buf, by k_mem, h3, lo3⟩⟩, ⟨oF, tfB, tfA, tfC, by k_mem, hF, loF⟩, ⟨oA, G, dG, HL, esG, nG, cH, th, tgb, by k_mem, hA, loA, by k_mem, by k_mem, by k_mem, gHi, gBs⟩, ⟨cP, by k_mem⟩, fun q hq => hoff q hq dW (by k_mem), (Nat.ne_of_gt (pw 8 9 (Nat.le_of_ble_eq_true rfl) (Nat.le_of_ble_eq_true rfl) (Nat.le_of_ble_eq_true rfl))), (Nat.ne_of_gt (pw 8 14 (Nat.le_of_ble_eq_true rfl) (Nat.le_of_ble_eq_true rfl) (Nat.le_of_ble_eq_true rfl))), (Nat.ne_of_gt (pw 8 13 (Nat.le_of_ble_eq_true rfl) (Nat.le_of_ble_eq_true rfl) (Nat.le_of_ble_eq_true rfl)))⟩
  have N2 := pickN (news := (SK, listOf #[.ref CL, .int 0 tk0] nSK) :: (CL, listOf vs.toArray nCL) :: (413, tabObj #[]) :: (420, tabObj #[]) :: (432, tabObj #[]) :: (cN, oN) :: (cW, oW) :: (cK, oKc) :: (W, instObj 386 dW) :: (dW, dictOf esW nW) :: (C, instObj 138 dC) :: (dC, dictOf esC nC) :: (K, oK) :: [(G, instObj 237 dG), (dG, dictOf esG nG), (HL, listOf #[.int 3 th] cH), (d3, o3), (d2, o2), (d1, o1), (PL, listOf #[] cP), (dO, oO), (dF, oF), (dA, oA)]) N (by
    repeat (refine List.forall_mem_cons.mpr ⟨by (repeat (first | exact .head _ | assumption | refine List.Mem.tail _ ?_)), ?_⟩)
    exact List.forall_mem_nil _)
  exact law_tail hbody hsc B F X T hP hP1 hP2 N2 hmC hmS hi hlen hoW hoN hoK hK loK hw hc hx hoff hnd hE hQ
end
section
open PySem.Calls PySem.Spec PyProof.Rows.LCg

/-! a def's body of «self.x = e», e a parameter, a constant, {} or []: one lemma for the whole list -/
inductive IniK where
  | nm (p : Str) | ci (k : Int) | cs (x : Str) | cb (b : Bool) | nd | nl
inductive IniE : Expr → IniK → Prop
  | nm {p : Str} {pos : Pos} : IniE (.Name p pos) (.nm p)
  | ci {k : Int} {kk : Nat} {pos : Pos} : IniE (.Constant (.int k) kk pos) (.ci k)
  | cs {x : Str} {kk : Nat} {pos : Pos} : IniE (.Constant (.str x) kk pos) (.cs x)
  | cb {b : Bool} {kk : Nat} {pos : Pos} : IniE (.Constant (.bool b) kk pos) (.cb b)
  | nd {pos : Pos} : IniE (.Dict [] [] pos) .nd
  | nl {pos : Pos} : IniE (.List [] pos) .nl
inductive IniL (env : Env) : List Stmt → List (Str × IniK) → Prop
  | nil : IniL env [] []
  | cons {x : Str} {e : Expr} {k : IniK} {ss : List Stmt} {todo : List (Str × IniK)} {p1 p2 p3 : Pos} (he : IniE e k) (hs : swapsWith e (some (.Attribute (.Name "self" p1) x p2)) p3.line env = pure false) (r : IniL env ss todo) :
      IniL env (.Assign [.Attribute (.Name "self" p1) x p2] e p3 :: ss) ((x, k) :: todo)
def OkV (w : World) (m : Str → Option Value) (R : List (Addr × Obj)) (D : Addr) : IniK → Value → Prop
  | .nm p, v => m p = some v
  | .ci k, v => ∃ t, v = .int k t
  | .cs x, v => ∃ t, v = .str x t
  | .cb b, v => v = .bool b
  | .nd, v => v = .ref D ∧ ∃ o, (D, o) ∈ R ∧ o.IsDictOf (PySem.strKind RW.row.prog w) [] ∧ o.IsDictOf (PySem.intKind RW.row.prog w) [] ∧ (D == sysModules) = false
  | .nl, _ => True
theorem OkV.mono {w : World} {m : Str → Option Value} {R R' : List (Addr × Obj)} {D : Addr} (hs : ∀ q ∈ R, q ∈ R') : ∀ {k : IniK} {v : Value}, OkV w m R D k v → OkV w m R' D k v
  | .nm _, _, h | .ci _, _, h | .cs _, _, h | .cb _, _, h | .nl, _, h => h
  | .nd, _, ⟨e, o, a, b⟩ => ⟨e, o, hs _ a, b⟩
def isNd : IniK → Bool
  | .nd => true
  | _ => false
/-- where the def stands: what is stored, and the dicts made so far in their order -/
structure IniAt (w : World) (m : Str → Option Value) (R0 R : List (Addr × Obj)) (dW : Addr) (es : List DictEntry) (V : Str → Value) (D : Str → Addr) (done : List (Str × IniK)) : Prop where
  ref : es.any (·.refKey) = false
  len : es.length ≤ done.length
  off : ∀ q ∈ R, ¬ q.1 = dW
  old : ∀ q ∈ R0, q ∈ R
  get : ∀ p ∈ done, getL p.1 es = some (some (V p.1)) ∧ OkV w m R (D p.1) p.2 (V p.1)
  gt : ∀ p ∈ done, isNd p.2 = true → ∀ q ∈ R0, @LT.lt Nat _ q.1 (D p.1)
  pw : done.Pairwise fun a b => isNd a.2 = true → isNd b.2 = true → @LT.lt Nat _ (D a.1) (D b.1)

theorem putL_ref {name : Str} {hsh : Int} {t : Tok} {v : Value} : ∀ {es : List DictEntry}, es.any (·.refKey) = false → (putL name hsh (.str name t) v es).any (·.refKey) = false
  | [], _ => rfl
  | e :: r, h => by
    have h' : e.refKey = false ∧ r.any (·.refKey) = false := by simpa using h
    unfold putL
    split
    · rw [List.any_cons, h'.2, Bool.or_false]; exact h'.1
    · rw [List.any_cons, putL_ref h'.2, Bool.or_false]; exact h'.1
theorem putL_len {name : Str} {hsh : Int} {key v : Value} : ∀ {es : List DictEntry}, (putL name hsh key v es).length ≤ es.length + 1
  | [] => Nat.le_refl _
  | e :: r => by
    unfold putL
    split
    · exact Nat.le_succ _
    · exact Nat.succ_le_succ putL_len
theorem getL_putL {name : Str} {hsh : Int} {t : Tok} {v : Value} {es : List DictEntry} (hr : es.any (·.refKey) = false) : getL name (putL name hsh (.str name t) v es) = some (some v) := by
  unfold getL
  induction es with
  | nil => simp [putL, Value.isStr]
  | cons e r ih =>
    have h' : e.refKey = false ∧ r.any (·.refKey) = false := by simpa using hr
    unfold putL
    cases q : e.key.isStr name with
    | true => simp [q]
    | false =>
      have := ih h'.2
      simp only [Bool.false_eq_true, if_false, List.find?_cons, q]
      cases hf : (putL name hsh (.str name t) v r).find? (·.key.isStr name) with
      | some z => rw [hf] at this; exact this
      | none => rw [hf, putL_ref h'.2] at this; cases this
theorem getL_putL_ne {name y : Str} {hsh : Int} {t : Tok} {v : Value} {es : List DictEntry} (hr : es.any (·.refKey) = false) (hy : ¬ y = name) : getL y (putL name hsh (.str name t) v es) = getL y es := by
  have hf : (putL name hsh (.str name t) v es).find? (·.key.isStr y) = es.find? (·.key.isStr y) ∨ ∃ e e' : DictEntry, (putL name hsh (.str name t) v es).find? (·.key.isStr y) = some e ∧ es.find? (·.key.isStr y) = some e' ∧ e.val = e'.val := by
    clear hr
    induction es with
    | nil =>
      left
      have : (Value.str name t).isStr y = false := isStr_ne (a := name) (by simp [Value.isStr]) hy
      simp [putL, this]
    | cons e r ih =>
      unfold putL
      cases q : e.key.isStr name with
      | true =>
        left
        have := isStr_ne q hy
        simp [this]
      | false =>
        simp only [Bool.false_eq_true, if_false, List.find?_cons]
        cases e.key.isStr y with
        | true => exact .inl rfl
        | false => exact ih
  unfold getL
  rw [putL_ref hr, hr]
  rcases hf with hf | ⟨e, e', h1, h2, h3⟩
  · rw [hf]
  · rw [h1, h2]; simp only [h3]

theorem getL_has {name : Str} {es : List DictEntry} (hr : es.any (·.refKey) = false) : (getL name es).isSome = true := by
  unfold getL
  split
  · rfl
  · rw [hr]; rfl
section
variable {w : World} {A : Around} {g : Heap} {L a W dW C : Addr} {cn : Str} {cs : Scope} {ccd : Value} {cl : List (Str × Addr)} {m mg mb : Str → Option Value} {p : Program} {loose : List Str} {mean : ExcName → Option Value} {R0 : List (Addr × Obj)} {K : Frag}
theorem ini_eval {s : Shared} {R : List (Addr × Obj)} {es : List DictEntry} {n : Nat} {e : Expr} {k : IniK} {Q : Value → Shared → Prop} {E : Value → Shared → Prop} (he : IniE e k) (F : Fr g L s.heap m) (T : Top p loose mean mg mb g) (N : News g L s.heap ((dW, dictOf es n) :: R)) (hck : cs.kind = .function)
    (hn : ∀ q, k = .nm q → (∃ v, m q = some v) ∧ (envX cn cs L a ccd cl).kindOf q = some .local ∧ (q == ("__debug__" : Str)) = false)
    (hQ : ∀ v D h' tk R', OkV w m R' D k v → (isNd k = true → ∀ q ∈ R, @LT.lt Nat _ q.1 D) → (∀ q ∈ R, q ∈ R') → (∀ q ∈ R', q ∈ R ∨ ¬ q.1 = dW) → Fr g L h' m → News g L h' ((dW, dictOf es n) :: R') → Q v { s with heap := h', toks := tk }) :
    wpAny (model RW.row.prog w) A (eval e (envX cn cs L a ccd cl)) Q E s := by
  cases he
  · obtain ⟨⟨v, hv⟩, h1, h2⟩ := hn _ rfl
    exact nameX_L F hv (hQ v 0 s.heap s.toks R hv (fun z => by cases z) (fun _ h => h) (fun _ h => .inl h) F N) hck h1 h2
  · exact wpAny_Constant_int (hQ _ 0 s.heap _ R ⟨_, rfl⟩ (fun z => by cases z) (fun _ h => h) (fun _ h => .inl h) F N)
  · exact Constant_str (hQ _ 0 s.heap _ R ⟨_, rfl⟩ (fun z => by cases z) (fun _ h => h) (fun _ h => .inl h) F N)
  · exact Constant_bool (hQ _ 0 s.heap s.toks R rfl (fun z => by cases z) (fun _ h => h) (fun _ h => .inl h) F N)
  · refine newDict_K F N (TopRead.nolimit (topRead_of T)) fun d h' o F' N' l1 lo hs _ hi _ => hQ _ d h' s.toks ((d, o) :: R) ⟨rfl, o, .head _, hs, hi, lo⟩ (fun _ q hq => l1 q (.tail _ hq)) (fun _ h => .tail _ h) (fun q hq => ?_) F' (pickN N' fun q hq => ?_)
    · rcases List.mem_cons.mp hq with rfl | hq
      · exact .inr (Nat.ne_of_gt (l1 _ (.head _)))
      · exact .inl hq
    · rcases List.mem_cons.mp hq with rfl | hq
      · exact .tail _ (.head _)
      rcases List.mem_cons.mp hq with rfl | hq
      · exact .head _
      · exact .tail _ (.tail _ hq)
  · refine List_ (args_nil (newList_K (vs := []) F N fun l h' F' N' l1 => hQ _ 0 h' s.toks R trivial (fun z => by cases z) (fun _ h => h) (fun _ h => .inl h) F' (pickN N' fun q hq => .tail _ hq)))
theorem ini_execs {E : Value → Shared → Prop} (T : Top p loose mean mg mb g) (X : K.In g) (hck : cs.kind = .function) (hks : (envX cn cs L a ccd cl).kindOf "self" = some .local) (hself : m "self" = some (.ref W))
    (hs : findIn K (.ref C) "__setattr__" = some (some (.builtin "object.__setattr__"))) (hp : plainOver K C = true) (hh : hasDictIn K C = true) (mW : (W, instObj C dW) ∈ R0) :
    ∀ {ss : List Stmt} {todo : List (Str × IniK)} (_h : IniL (envX cn cs L a ccd cl) ss todo) {s : Shared} {es : List DictEntry} {n : Nat} {R : List (Addr × Obj)} {V : Str → Value} {D : Str → Addr} {done : List (Str × IniK)} {Q : Flow → Shared → Prop},
      ((done ++ todo).map (·.1)).Nodup → (done ++ todo).length ≤ 1000 → (∀ q ∈ todo, takerIn K C q.1 = some none) →
      (∀ q ∈ todo, ∀ y, q.2 = .nm y → (∃ v, m y = some v) ∧ (envX cn cs L a ccd cl).kindOf y = some .local ∧ (y == ("__debug__" : Str)) = false) →
      Fr g L s.heap m → News g L s.heap ((dW, dictOf es n) :: R) → IniAt w m R0 R dW es V D done →
      (∀ h' tk es' n' R' V' D', Fr g L h' m → News g L h' ((dW, dictOf es' n') :: R') → IniAt w m R0 R' dW es' V' D' (done ++ todo) → Q .next { s with heap := h', toks := tk }) →
      wpAny (model RW.row.prog w) A (execs ss (envX cn cs L a ccd cl)) Q E s := by
  intro ss todo h
  induction h with
  | nil =>
    intro s es n R V D done Q _ _ _ _ F N J hQ
    exact wpAny_execs_nil (hQ s.heap s.toks es n R V D F N (by rw [List.append_nil]; exact J))
  | @cons x e k ss todo p1 p2 p3 he hsw r ih =>
    intro s es n R V D done Q hnd hlen htk hnm F N J hQ
    refine wpAny_execs_cons (plainObj_wpAny_Assign_Attribute (ini_eval he F T N hck (hnm _ (.head _)) fun v D0 h1 tk1 R1 ok gt1 sub1 off1 F1 N1 => ?_) hsw)
    have off' : ∀ q ∈ R1, ¬ q.1 = dW := fun q hq => (off1 q hq).elim (J.off q) id
    have l1 : done.length + 1 ≤ 1000 := by
      have : (done ++ (x, k) :: todo).length = done.length + (todo.length + 1) := by simp
      omega
    have lz : (putL x (PyData.keyHash w.params x) (.str x (tk1 + 1)) v es).length ≤ done.length + 1 := Nat.le_trans putL_len (Nat.succ_le_succ J.len)
    refine nameX_L F1 hself (set_dict (s := { s with heap := h1, toks := tk1 }) F1 X N1 (InstAt.of_news N1 (.tail _ (sub1 _ (J.old _ mW))) (.head _)) rfl hs hp (htk _ (.head _)) hh (getL_has J.ref) rfl (.head off') (Nat.le_trans lz l1) fun h2 F2 N2 => ?_) hck hks
    have hx : ∀ q ∈ done, ¬ q.1 = x := fun q hq e => by
      rw [List.map_append, List.nodup_append] at hnd
      exact hnd.2.2 _ (List.mem_map_of_mem hq) _ (List.mem_map_of_mem (List.mem_cons_self ..)) e
    refine ih (s := { s with heap := h2, toks := tk1 + 2 }) (V := fun y => if y = x then v else V y) (D := fun y => if y = x then D0 else D y) (done := done ++ [(x, k)]) (by rw [List.append_assoc]; exact hnd) (by rw [List.append_assoc]; exact hlen) (fun q hq => htk q (.tail _ hq)) (fun q hq => hnm q (.tail _ hq)) F2 N2 ?_ (fun h' tk es' n' R' V' D' F' N' J' => hQ h' tk es' n' R' V' D' F' N' (by rw [List.append_assoc] at J'; exact J'))
    refine ⟨putL_ref J.ref, by rw [List.length_append]; exact lz, off', fun q hq => sub1 q (J.old q hq), fun q hq => ?_, fun q hq => ?_, ?_⟩
    · rcases List.mem_append.mp hq with hq | hq
      · simp only [if_neg (hx q hq)]
        exact ⟨(getL_putL_ne J.ref (hx q hq)).trans (J.get q hq).1, (J.get q hq).2.mono sub1⟩
      · rw [List.mem_singleton.mp hq]
        simp only [if_true]
        exact ⟨getL_putL J.ref, ok⟩
    · rcases List.mem_append.mp hq with hq | hq
      · simp only [if_neg (hx q hq)]
        exact J.gt q hq
      · rw [List.mem_singleton.mp hq]
        simp only [if_true]
        exact fun z q hq => gt1 z q (J.old q hq)
    · refine List.pairwise_append.mpr ⟨J.pw.imp_of_mem fun ha hb z => ?_, List.pairwise_singleton .., fun a ha b hb => ?_⟩
      · simp only [if_neg (hx _ ha), if_neg (hx _ hb)]; exact z
      · rw [List.mem_singleton.mp hb]
        simp only [if_neg (hx _ ha), if_true]
        intro z1 z2
        have := (J.get a ha).2
        cases h : a.2 <;> rw [h] at z1 this <;> first | cases z1 | skip
        obtain ⟨_, o, hm, _⟩ := this
        exact gt1 z2 _ hm
end

theorem IniAt.start {w : World} {m : Str → Option Value} {R0 : List (Addr × Obj)} {dW : Addr} (off : ∀ q ∈ R0, ¬ q.1 = dW) : IniAt w m R0 R0 dW [] (fun _ => .none) (fun _ => 0) [] where
  ref := rfl
  len := Nat.le_refl _
  off := off
  old := fun _ h => h
  get := fun _ h => nomatch h
  gt := fun _ h => nomatch h
  pw := .nil
theorem IniAt.mem {w : World} {m : Str → Option Value} {R0 R : List (Addr × Obj)} {dW : Addr} {es : List DictEntry} {V : Str → Value} {D : Str → Addr} {done : List (Str × IniK)} (J : IniAt w m R0 R dW es V D done) {x : Str} {k : IniK} (i : Nat) (h : done[i]? = some (x, k)) :
    getL x es = some (some (V x)) ∧ OkV w m R (D x) k (V x) := J.get _ (List.mem_of_getElem? h)
theorem IniAt.lt {w : World} {m : Str → Option Value} {R0 R : List (Addr × Obj)} {dW : Addr} {es : List DictEntry} {V : Str → Value} {D : Str → Addr} {done : List (Str × IniK)} (J : IniAt w m R0 R dW es V D done) {x y : Str} (i j : Nat) (h : done[i]? = some (x, .nd)) (h' : done[j]? = some (y, .nd)) (hij : i < j) :
    @LT.lt Nat _ (D x) (D y) := by
  obtain ⟨hi, ei⟩ := List.getElem?_eq_some_iff.mp h
  obtain ⟨hj, ej⟩ := List.getElem?_eq_some_iff.mp h'
  have := List.pairwise_iff_getElem.mp J.pw i j hi hj hij
  rw [ei, ej] at this
  exact this rfl rfl
theorem IniAt.world {w : World} {m : Str → Option Value} {R0 R : List (Addr × Obj)} {dW : Addr} {es : List DictEntry} {V : Str → Value} {D : Str → Addr} {done : List (Str × IniK)} {P : Prop} {pr : Str} {tr' : Tok} {pm : Str} {tm' : Tok} (J : IniAt w m R0 R dW es V D done) (hl : done.length ≤ 1000)
    (h2 : done[2]? = some (("most_steps" : Str), IniK.nm pm)) (h4 : done[4]? = some (("room" : Str), IniK.nm pr)) (h6 : done[6]? = some (("arrays" : Str), IniK.nd)) (h7 : done[7]? = some (("kinds" : Str), IniK.nd)) (h12 : done[12]? = some (("files" : Str), IniK.nd)) (h13 : done[13]? = some (("open" : Str), IniK.nd)) (h17 : done[17]? = some (("base" : Str), IniK.ci 0))
    (h19 : done[19]? = some (("steps" : Str), IniK.ci 0)) (h21 : done[21]? = some (("handler" : Str), IniK.ci 0)) (h22 : done[22]? = some (("is_handling" : Str), IniK.cb false)) (h23 : done[23]? = some (("error_line" : Str), IniK.ci 0)) (h24 : done[24]? = some (("error_code" : Str), IniK.cs "")) (hm : m pm = some (.int 0 tm')) (hr : m pr = some (.int 2000 tr'))
    (k : ∀ dA dK dF dO oA oK oF oO tb tr, WF dO dF dA es → getL "kinds" es = some (some (.ref dK)) → getL "base" es = some (some (.int 0 tb)) → getL "room" es = some (some (.int 2000 tr)) → (dA, oA) ∈ R → (dK, oK) ∈ R → (dF, oF) ∈ R → (dO, oO) ∈ R →
      (∀ q ∈ R0, @LT.lt Nat _ q.1 dA) → @LT.lt Nat _ dA dK → @LT.lt Nat _ dK dF → @LT.lt Nat _ dF dO →
      oA.IsDictOf (PySem.strKind RW.row.prog w) [] → (dA == sysModules) = false → oK.IsDictOf (PySem.strKind RW.row.prog w) [] → (dK == sysModules) = false → oF.IsDictOf (PySem.strKind RW.row.prog w) [] → (dF == sysModules) = false → oO.IsDictOf (PySem.intKind RW.row.prog w) [] → (dO == sysModules) = false → P) : P := by
  obtain ⟨g6, e6, oA, mA, sA, _, lA⟩ := J.mem 6 h6
  obtain ⟨g7, e7, oK, mK, sK, _, lK⟩ := J.mem 7 h7
  obtain ⟨g12, e12, oF, mF, sF, _, lF⟩ := J.mem 12 h12
  obtain ⟨g13, e13, oO, mO, _, iO, lO⟩ := J.mem 13 h13
  obtain ⟨g17, tb, e17⟩ := J.mem 17 h17
  obtain ⟨g19, ts, e19⟩ := J.mem 19 h19
  obtain ⟨g2, e2⟩ := J.mem 2 h2
  obtain ⟨g4, e4⟩ := J.mem 4 h4
  obtain ⟨g22, e22⟩ := J.mem 22 h22
  have e2' := Option.some.inj (hm.symm.trans e2)
  have e4' := Option.some.inj (hr.symm.trans e4)
  rw [e6] at g6; rw [e7] at g7; rw [e12] at g12; rw [e13] at g13; rw [e17] at g17; rw [e19] at g19; rw [← e2'] at g2; rw [← e4'] at g4; rw [e22] at g22
  exact k _ _ _ _ oA oK oF oO tb tr' ⟨g13, g12, g6, ⟨0, ts, g19, Int.le_refl _⟩, ⟨tm', g2⟩, g22, ⟨_, (J.mem 21 h21).1⟩, ⟨_, (J.mem 24 h24).1⟩, ⟨_, (J.mem 23 h23).1⟩, Nat.le_trans J.len hl⟩ g7 g17 g4 mA mK mF mO
    (J.gt _ (List.mem_of_getElem? h6) rfl) (J.lt 6 7 h6 h7 (by decide)) (J.lt 7 12 h7 h12 (by decide)) (J.lt 12 13 h12 h13 (by decide)) sA lA sK lK sF lF iO lO
end
section
open PySem.Calls PySem.Spec PyProof.Rows.LCg
theorem w_V_wo_0 : True := by
  k_with_none
  k_with "M k_room" => ((try simp only [depth_mark, depth_under_make, depth_under_kw, depth_in1, depth_deeper]); exact Nat.lt_of_lt_of_le (m := 900) (by decide) (by decide))
  k_with "M exec Raise some none" => (k_here; (with_reducible show wpAny _ _ (exec (Stmt.Raise (some (Expr.Call (Expr.Name ("BasicError" : Str) _) _ [] _)) none _) _) _ _ _); k_dflt (refine' raise_K ?zzF ?zzX ?zzh ?_; (case zzF => k_asm); (case zzX => k_asm); (case zzh => first | rfl | assumption); k_whole))
  k_with "M call ref" => (k_here; k_dflt (refine wpAny_call ?_; refine' code_defC ?zzk1 ?zzk2 ?zzk3 ?zzk4 ?zzk5 ?zzkA ?zzkF ?zzkK ?zzk6 ?zzk7 ?zzk8 ?zzk9 ?zzkB ?zzkD ?_ ?zzc2 ?zzc3 ?zzc4; (case zzkA => exact Around.frames_deeper (Below.stack (by assumption))); (case zzkF => exact rfl); (case zzkK => exact rfl); (case zzk1 => k_asm); (case zzk2 => k_asm); (case zzk3 => k_asm); (case zzk4 => k_asm); (case zzk5 => k_asm); (case zzk6 => k_is); (case zzk7 => k_is); (case zzk8 => k_room); (case zzk9 => first | exact BindsTo.of_eq rfl | exact binds_K (by k_in) rfl (by k_is) rfl rfl rfl | fail "k_enter: no rule for these arguments"); (case zzkB => exact rfl); (case zzkD => decide +kernel); (case zzc2 => exact rfl); (case zzc3 => exact rfl); (case zzc4 => exact rfl); k_whole; intro g'w L'w h'w tk'w cells'w FG'w F'w N'w Y'w B'w X'w T'w l1'w; (try k_lt l1'w); k_cells Y'w; (try simp only [List.cons_append, List.nil_append] at N'w); (try dsimp only); (try k_lift B'w); (try k_fold)))
  k_with "M call ref" => (k_here; k_dflt (refine wpAny_call ?_; refine' code_def ?zzk1 ?zzk2 ?zzk3 ?zzk4 ?zzk5 ?zzkA ?zzkF ?zzkK ?zzk6 ?zzk7 ?zzk8 ?zzk9 ?zzkB ?_ ?zzc2 ?zzc3 ?zzc4 ?zzc5; (case zzkA => exact Around.frames_deeper (Below.stack (by assumption))); (case zzkF => exact rfl); (case zzkK => exact rfl); (case zzk1 => k_asm); (case zzk2 => k_asm); (case zzk3 => k_asm); (case zzk4 => k_asm); (case zzk5 => k_asm); (case zzk6 => k_is); (case zzk7 => k_is); (case zzk8 => k_room); (case zzk9 => first | exact BindsTo.of_eq rfl | exact binds_K (by k_in) rfl (by k_is) rfl rfl rfl | fail "k_enter: no rule for these arguments"); (case zzc5 => decide); (case zzkB => exact locs rfl); (case zzc2 => exact rfl); (case zzc3 => exact rfl); (case zzc4 => exact rfl); k_whole; intro g'w L'w h'w FG'w F'w N'w B'w X'w T'w; (try dsimp only); (try k_lift B'w); (try k_fold)))
  k_with "M call ref" => (k_here; (with_reducible show wpAny _ _ (call (Value.ref 34) _) _ _ _); k_dflt (refine' bx_make ?zzF ?zzX ?zzT ?zzr ?zzl ?_; (case zzF => k_asm); (case zzX => k_asm); (case zzT => k_asm); (case zzr => k_room); (case zzl => first | exact Nat.zero_le _ | exact Nat.le_refl _); k_whole); intro h'w tk'w e'w dx'w mb'w)
  k_with "M RaisesB" => (k_dflt (refine' raisesB_K ?zzF ?zzM ?_; (case zzF => k_asm); (case zzM => assumption); k_whole))
  k_with "M leaving ref" => (k_here; first
  | (refine' leave_newB ?zzk1 ?zzk0 ?zzk2 ?zzk3 ?zzkf ?zzkk ?_; (case zzk0 => assumption); (case zzk1 => assumption); (case zzk2 => assumption); (case zzk3 => k_asm); (case zzkf => rfl); (case zzkk => rfl); k_whole; intro h'w R'w U'w; (try dsimp only at R'w U'w ⊢))
  | (refine' leave_onB ?zzk1 ?zzk2 ?zzk3 ?zzk4 ?zzkf ?_; (case zzk3 => assumption); (case zzk1 => assumption); (case zzk4 => assumption); (case zzk2 => assumption); (case zzkf => rfl); k_whole; intro h'w R'w U'w; (try dsimp only at R'w U'w ⊢)))
  k_with "M getAttr ref" => (k_here; k_dflt (refine' get_own ?zzk1 ?zzk2 ?zzk3 ?zzk4 ?zzk5 ?zzk6 ?zzk7 ?zzk8 ?zzk9 ?_; (case zzk1 => k_asm); (case zzk2 => k_asm); (case zzk3 => k_inst); (case zzk4 => k_is); (case zzk5 => k_is); (case zzk6 => k_is); (case zzk7 => k_is); (case zzk8 => assumption); (case zzk9 => k_handed); k_whole))
  k_with "M eval Name" => (k_here; kc_free; k_dflt (refine' nameX_F ?zzN ?zzc ?zzm ?zzd ?_ ?zza ?zzb; (case zza => rfl); (case zzb => rfl); (case zzN => k_asm); (case zzc => rfl); (case zzm => k_mem); (case zzd => assumption); k_whole))
  k_with "M compareOp In int ref" => (k_here; k_dflt (refine kda_in (knd := PySem.intKind _ _) (by k_asm) (by k_mem) (by k_asm) (by k_asm) (intKind_is _ _ _ _) false (not_three (by omega) (by omega) (by omega)) ?_))
  k_with "M compareOp NotIn int ref" => (k_here; k_dflt (refine kdg_notin (knd := PySem.intKind _ _) (by k_asm) (by k_mem) (by k_asm) (by k_asm) (intKind_is _ _ _ _) false (not_three (by omega) (by omega) (by omega)) ?_))
  k_with "M exec For Name Attribute cons nil" => (k_here; (rename Fr _ _ _ _ => lF'w); (with_unfolding_all refine' For_turns lF'w ?_; k_whole))
  k_with "M pyIter ref" => (k_here; (with_reducible show wpAny _ _ (pyIter (Value.ref _)) (fun it s₂ => TurnsAt _ _ _ _ _ _ _ _ _ it s₂) _ _); (rename Fr _ _ _ _ => lF'w); (rename News _ _ _ _ => lN'w); (with_unfolding_all first
  | refine kta_keys (knd := PySem.intKind _ _) (enc := PyData.int) (xs := [Itm.tok (fun t => Value.int 1 t), Itm.tok (fun t => Value.int 2 t), Itm.tok (fun t => Value.int 3 t)]) (by rfl) lF'w lN'w (by k_mem) (by k_asm) (by k_asm) (fun _ _ h => Value.isInt_shape h) (by rfl) ?_
  | refine kta_keys (knd := PySem.intKind _ _) (enc := PyData.int) (xs := [Itm.tok (fun t => Value.int 1 t), Itm.tok (fun t => Value.int 2 t)]) (by rfl) lF'w lN'w (by k_mem) (by k_asm) (by k_asm) (fun _ _ h => Value.isInt_shape h) (by rfl) ?_
  | refine kta_keys (knd := PySem.intKind _ _) (enc := PyData.int) (xs := [Itm.tok (fun t => Value.int 1 t)]) (by rfl) lF'w lN'w (by k_mem) (by k_asm) (by k_asm) (fun _ _ h => Value.isInt_shape h) (by rfl) ?_
  | refine kta_keys (knd := PySem.intKind _ _) (enc := PyData.int) (xs := []) (by rfl) lF'w lN'w (by k_mem) (by k_asm) (by k_asm) (fun _ _ h => Value.isInt_shape h) (by rfl) ?_); clear lF'w lN'w; intro i'w l1'w; (try k_lt l1'w))
  k_with "M And" => (k_here; (exact ⟨by first | rfl | exact decide_eq_false (by omega), _, rfl⟩))
  k_with "M exec For Tuple Call cons nil" => (k_here; (rename Fr _ _ _ _ => lF'w); (with_unfolding_all refine' For_turns lF'w ?_; k_whole))
  k_with "M kts_caught" => first | exact PutAt.same (by assumption) | assumption | (refine Eq.trans (PutAt.other (by assumption) _ (by decide)) ?_; k_extra "M kts_caught")
  k_with "M getAttr ref" => (k_here; k_dflt (refine' get_own ?zzk1 ?zzk2 ?zzk3 ?zzk4 ?zzk5 ?zzk6 ?zzk7 ?zzk8 ?zzk9 ?_; (case zzk1 => k_asm); (case zzk2 => k_asm); (case zzk3 => k_inst); (case zzk4 => k_is); (case zzk5 => k_is); (case zzk6 => k_is); (case zzk7 => k_is); (case zzk8 => kts_caught); (case zzk9 => k_handed); k_whole))
  k_with "M setAttr ref" => (k_here; k_dflt (refine' set_abs ?zzk1 ?zzk2 ?zzk3 ?zzk4 ?zzk5 ?zzk6 ?zzk7 ?zzk8 ?zzk9 ?zzk10 ?zzk12 ?zzk13 ?_; (case zzk1 => k_asm); (case zzk2 => k_asm); (case zzk3 => k_asm); (case zzk4 => k_inst); (case zzk5 => exact rfl); (case zzk6 => k_is); (case zzk7 => k_is); (case zzk8 => k_is); (case zzk9 => k_is); (case zzk10 => kts_caught); (case zzk12 => k_updF); (case zzk13 => assumption); k_whole); intro h'w es'w n'w F'w N'w P'w z'w; (try dsimp only at N'w))
  k_with "M execs cons" => ((with_reducible show wpAny _ _ (execs (Stmt.Assign [Expr.Attribute _ _ _] _ _ :: _) _) _ _ _); refine held ?_)
  trivial

theorem WF.of {dO dF dA : Addr} {es : List DictEntry} {n : Int} {t t2 : Tok} {v1 v2 v3 : Value} (a1 : getL "open" es = some (some (.ref dO))) (a2 : getL "files" es = some (some (.ref dF))) (a3 : getL "arrays" es = some (some (.ref dA))) (a4 : getL "steps" es = some (some (.int n t))) (a5 : 0 ≤ n) (a6 : getL "most_steps" es = some (some (.int 0 t2))) (a7 : getL "is_handling" es = some (some (.bool false)))
  (a8 : getL "handler" es = some (some v1)) (a9 : getL "error_code" es = some (some v2)) (a10 : getL "error_line" es = some (some v3)) (a11 : es.length ≤ 1000) : WF dO dF dA es := ⟨a1, a2, a3, ⟨n, t, a4, a5⟩, ⟨t2, a6⟩, a7, ⟨v1, a8⟩, ⟨v2, a9⟩, ⟨v3, a10⟩, a11⟩
theorem CF.of {PL : Addr} {es : List DictEntry} {v : Value} (a1 : getL "pile" es = some (some (.ref PL))) (a2 : getL "failed_at" es = some (some v)) (a3 : es.length ≤ 1000) : CF PL es := ⟨a1, ⟨v, a2⟩, a3⟩

theorem world_K {w : World} {base h₀ : Heap} {L : Addr} {m mg mb : Str → Option Value} {p : Program} {loose : List Str} {mean : ExcName → Option Value} {s : Shared} {Q E : Value → Shared → Prop} {big : List (Addr × Obj)} {t1 t2 t3 : Tok} {sc : Scope} {a cW cN cK : Addr} (hsc : lawScope = some sc)
  (B : Below callerA base [] h₀) (F : Fr h₀ L s.heap m) (X : (hd.heap_1_39 w.params).In h₀) (T : Top p loose mean mg mb h₀) (N : News h₀ L s.heap big)
  (hQ : ∀ h' tk W dW dA dK dF dO esW nW oA oK0 oF oO tb tr, Fr h₀ L h' m → News h₀ L h' ((W, instObj 386 dW) :: (dW, dictOf esW nW) :: (dO, oO) :: (dF, oF) :: (dK, oK0) :: (dA, oA) :: big) → (∀ q ∈ big, @LT.lt Nat _ q.1 dW) → @LT.lt Nat _ dW W → @LT.lt Nat _ W dA → @LT.lt Nat _ dA dK → @LT.lt Nat _ dK dF → @LT.lt Nat _ dF dO → WF dO dF dA esW → getL "kinds" esW = some (some (.ref dK)) → getL "base" esW = some (some (.int 0 tb)) → getL "room" esW = some (some (.int 2000 tr)) →
    oA.IsDictOf (PySem.strKind RW.row.prog w) [] → (dA == sysModules) = false → oK0.IsDictOf (PySem.strKind RW.row.prog w) [] → (dK == sysModules) = false → oF.IsDictOf (PySem.strKind RW.row.prog w) [] → (dF == sysModules) = false → oO.IsDictOf (PySem.intKind RW.row.prog w) [] → (dO == sysModules) = false → Q (.ref W) { s with heap := h', toks := tk }) :
  wpAny (model RW.row.prog w) (callerA.deeper (envX "law" sc L a (.ref 434) [("world", cW), ("number", cN), ("known", cK)])) (call (.ref 386) [.int 16 t1, .int 9 t2, .int 0 t3]) Q E s := by
  rw [show lawScope = some _ from rfl] at hsc
  cases hsc
  revert X; k_fill; intro X
  k_steps
  unfold Held
  rename_i x d h1 F1 N1 l1 l2 g1 L1 h2 FG F2 N2 B2 X2 T2
  refine' ini_execs (K := hd.heap_1_39 w.params) (todo := [("bits", .nm "bits"), ("digits", .nm "digits"), ("most_steps", .nm "most_steps"), ("most_depth", .nm "most_depth"), ("room", .nm "room"), ("names", .nd), ("arrays", .nd), ("kinds", .nd), ("fns", .nd), ("out", .nl), ("row", .cs ""), ("inputs", .nl), ("files", .nd), ("open", .nd), ("fields", .nd), ("data", .nl), ("spot", .ci 0), ("base", .ci 0), ("seed", .ci 1), ("steps", .ci 0), ("depth", .ci 0), ("handler", .ci 0), ("is_handling", .cb false), ("error_line", .ci 0), ("error_code", .cs ""), ("is_traced", .cb false), ("traces", .nl), ("common", .nl)]) (C := 386) (R0 := (x, instObj 386 d) :: big) T2 X2 rfl rfl rfl ?hs ?hp ?hh (.head _) ?ini ?nd ?len ?tk ?nm F2 (pickN N2 ?sub) (IniAt.start (List.forall_mem_cons.mpr ⟨Nat.ne_of_gt l2, fun q hq => Nat.ne_of_lt (l1 q hq)⟩)) ?fin
  case hs => k_is
  case hp => k_is
  case hh => k_is
  case ini => repeat (first | exact IniL.nil | refine IniL.cons (by constructor) rfl ?_)
  case nd => decide +kernel
  case len => exact Nat.le_of_ble_eq_true rfl
  case tk => repeat (first | exact List.forall_mem_nil _ | refine List.forall_mem_cons.mpr ⟨by k_is, ?_⟩)
  case nm => repeat (first | exact List.forall_mem_nil _ | refine List.forall_mem_cons.mpr ⟨fun y h => by first | (cases h; done) | (cases h; exact ⟨⟨_, rfl⟩, rfl, rfl⟩), ?_⟩)
  case sub => exact List.forall_mem_cons.mpr ⟨.tail _ (.head _), List.forall_mem_cons.mpr ⟨.head _, fun q hq => .tail _ (.tail _ hq)⟩⟩
  case fin =>
    intro h' tk es' n' R' V' D' F' N' J'
    k_steps
    rename Fr h₀ L _ _ => F9
    rename News h₀ L _ _ => N9
    refine J'.world (Nat.le_of_ble_eq_true rfl) rfl rfl rfl rfl rfl rfl rfl rfl rfl rfl rfl rfl rfl rfl fun dA dK dF dO oA oK oF oO tb tr hw gk gb gr mA mK mF mO l3 l4 l5 l6 a1 a2 a3 a4 a5 a6 a7 a8 => ?_
    refine hQ h' tk x d dA dK dF dO es' n' oA oK oF oO tb tr F9 (pickN N9 ?sub2) l1 l2 (l3 _ (.head _)) l4 l5 l6 hw gk gb gr a1 a2 a3 a4 a5 a6 a7 a8
    exact List.forall_mem_cons.mpr ⟨.tail _ (J'.old _ (.head _)), List.forall_mem_cons.mpr ⟨.head _, List.forall_mem_cons.mpr ⟨.tail _ mO, List.forall_mem_cons.mpr ⟨.tail _ mF, List.forall_mem_cons.mpr ⟨.tail _ mK, List.forall_mem_cons.mpr ⟨.tail _ mA, fun q hq => .tail _ (J'.old _ (.tail _ hq))⟩⟩⟩⟩⟩⟩
end
section
open PySem.Calls PySem.Spec PyProof.Rows.LCg
theorem w_EX18_0 : True := by
  k_with_none
  k_with "M k_room" => ((try simp only [depth_mark, depth_under_make, depth_under_kw, depth_in1, depth_deeper]); exact Nat.lt_of_lt_of_le (m := 900) (by decide) (by decide))
  k_with "M exec Raise some none" => (k_here; (with_reducible show wpAny _ _ (exec (Stmt.Raise (some (Expr.Call (Expr.Name ("BasicError" : Str) _) _ [] _)) none _) _) _ _ _); k_dflt (refine' raise_K ?zzF ?zzX ?zzh ?_; (case zzF => k_asm); (case zzX => k_asm); (case zzh => first | rfl | assumption); k_whole))
  k_with "M call ref" => (k_here; k_dflt (refine wpAny_call ?_; refine' code_defC ?zzk1 ?zzk2 ?zzk3 ?zzk4 ?zzk5 ?zzkA ?zzkF ?zzkK ?zzk6 ?zzk7 ?zzk8 ?zzk9 ?zzkB ?zzkD ?_ ?zzc2 ?zzc3 ?zzc4; (case zzkA => exact Around.frames_deeper (Below.stack (by assumption))); (case zzkF => exact rfl); (case zzkK => exact rfl); (case zzk1 => k_asm); (case zzk2 => k_asm); (case zzk3 => k_asm); (case zzk4 => k_asm); (case zzk5 => k_asm); (case zzk6 => k_is); (case zzk7 => k_is); (case zzk8 => k_room); (case zzk9 => first | exact BindsTo.of_eq rfl | exact binds_K (by k_in) rfl (by k_is) rfl rfl rfl | fail "k_enter: no rule for these arguments"); (case zzkB => exact rfl); (case zzkD => decide +kernel); (case zzc2 => exact rfl); (case zzc3 => exact rfl); (case zzc4 => exact rfl); k_whole; intro g'w L'w h'w tk'w cells'w FG'w F'w N'w Y'w B'w X'w T'w l1'w; (try k_lt l1'w); k_cells Y'w; (try simp only [List.cons_append, List.nil_append] at N'w); (try dsimp only); (try k_lift B'w); (try k_fold)))
  k_with "M call ref" => (k_here; k_dflt (refine wpAny_call ?_; refine' code_def ?zzk1 ?zzk2 ?zzk3 ?zzk4 ?zzk5 ?zzkA ?zzkF ?zzkK ?zzk6 ?zzk7 ?zzk8 ?zzk9 ?zzkB ?_ ?zzc2 ?zzc3 ?zzc4 ?zzc5; (case zzkA => exact Around.frames_deeper (Below.stack (by assumption))); (case zzkF => exact rfl); (case zzkK => exact rfl); (case zzk1 => k_asm); (case zzk2 => k_asm); (case zzk3 => k_asm); (case zzk4 => k_asm); (case zzk5 => k_asm); (case zzk6 => k_is); (case zzk7 => k_is); (case zzk8 => k_room); (case zzk9 => first | exact BindsTo.of_eq rfl | exact binds_K (by k_in) rfl (by k_is) rfl rfl rfl | fail "k_enter: no rule for these arguments"); (case zzc5 => decide); (case zzkB => exact locs rfl); (case zzc2 => exact rfl); (case zzc3 => exact rfl); (case zzc4 => exact rfl); k_whole; intro g'w L'w h'w FG'w F'w N'w B'w X'w T'w; (try dsimp only); (try k_lift B'w); (try k_fold)))
  k_with "M call ref" => (k_here; (with_reducible show wpAny _ _ (call (Value.ref 34) _) _ _ _); k_dflt (refine' bx_make ?zzF ?zzX ?zzT ?zzr ?zzl ?_; (case zzF => k_asm); (case zzX => k_asm); (case zzT => k_asm); (case zzr => k_room); (case zzl => first | exact Nat.zero_le _ | exact Nat.le_refl _); k_whole); intro h'w tk'w e'w dx'w mb'w)
  k_with "M RaisesB" => (k_dflt (refine' raisesB_K ?zzF ?zzM ?_; (case zzF => k_asm); (case zzM => assumption); k_whole))
  k_with "M leaving ref" => (k_here; first
  | (refine' leave_newB ?zzk1 ?zzk0 ?zzk2 ?zzk3 ?zzkf ?zzkk ?_; (case zzk0 => assumption); (case zzk1 => assumption); (case zzk2 => assumption); (case zzk3 => k_asm); (case zzkf => rfl); (case zzkk => rfl); k_whole; intro h'w R'w U'w; (try dsimp only at R'w U'w ⊢))
  | (refine' leave_onB ?zzk1 ?zzk2 ?zzk3 ?zzk4 ?zzkf ?_; (case zzk3 => assumption); (case zzk1 => assumption); (case zzk4 => assumption); (case zzk2 => assumption); (case zzkf => rfl); k_whole; intro h'w R'w U'w; (try dsimp only at R'w U'w ⊢)))
  k_with "M getAttr ref" => (k_here; k_dflt (refine' get_own ?zzk1 ?zzk2 ?zzk3 ?zzk4 ?zzk5 ?zzk6 ?zzk7 ?zzk8 ?zzk9 ?_; (case zzk1 => k_asm); (case zzk2 => k_asm); (case zzk3 => k_inst); (case zzk4 => k_is); (case zzk5 => k_is); (case zzk6 => k_is); (case zzk7 => k_is); (case zzk8 => assumption); (case zzk9 => k_handed); k_whole))
  k_with "M eval Name" => (k_here; kc_free; k_dflt (refine' nameX_F ?zzN ?zzc ?zzm ?zzd ?_ ?zza ?zzb; (case zza => rfl); (case zzb => rfl); (case zzN => k_asm); (case zzc => rfl); (case zzm => k_mem); (case zzd => assumption); k_whole))
  k_with "M compareOp In int ref" => (k_here; k_dflt (refine kda_in (knd := PySem.intKind _ _) (by k_asm) (by k_mem) (by k_asm) (by k_asm) (intKind_is _ _ _ _) false (not_three (by omega) (by omega) (by omega)) ?_))
  k_with "M compareOp NotIn int ref" => (k_here; k_dflt (refine kdg_notin (knd := PySem.intKind _ _) (by k_asm) (by k_mem) (by k_asm) (by k_asm) (intKind_is _ _ _ _) false (not_three (by omega) (by omega) (by omega)) ?_))
  k_with "M exec For Name Attribute cons nil" => (k_here; (rename Fr _ _ _ _ => lF'w); (with_unfolding_all refine' For_turns lF'w ?_; k_whole))
  k_with "M pyIter ref" => (k_here; (with_reducible show wpAny _ _ (pyIter (Value.ref _)) (fun it s₂ => TurnsAt _ _ _ _ _ _ _ _ _ it s₂) _ _); (rename Fr _ _ _ _ => lF'w); (rename News _ _ _ _ => lN'w); (with_unfolding_all first
  | refine kta_keys (knd := PySem.intKind _ _) (enc := PyData.int) (xs := [Itm.tok (fun t => Value.int 1 t), Itm.tok (fun t => Value.int 2 t), Itm.tok (fun t => Value.int 3 t)]) (by rfl) lF'w lN'w (by k_mem) (by k_asm) (by k_asm) (fun _ _ h => Value.isInt_shape h) (by rfl) ?_
  | refine kta_keys (knd := PySem.intKind _ _) (enc := PyData.int) (xs := [Itm.tok (fun t => Value.int 1 t), Itm.tok (fun t => Value.int 2 t)]) (by rfl) lF'w lN'w (by k_mem) (by k_asm) (by k_asm) (fun _ _ h => Value.isInt_shape h) (by rfl) ?_
  | refine kta_keys (knd := PySem.intKind _ _) (enc := PyData.int) (xs := [Itm.tok (fun t => Value.int 1 t)]) (by rfl) lF'w lN'w (by k_mem) (by k_asm) (by k_asm) (fun _ _ h => Value.isInt_shape h) (by rfl) ?_
  | refine kta_keys (knd := PySem.intKind _ _) (enc := PyData.int) (xs := []) (by rfl) lF'w lN'w (by k_mem) (by k_asm) (by k_asm) (fun _ _ h => Value.isInt_shape h) (by rfl) ?_); clear lF'w lN'w; intro i'w l1'w; (try k_lt l1'w))
  k_with "M And" => (k_here; (exact ⟨by first | rfl | exact decide_eq_false (by omega), _, rfl⟩))
  k_with "M exec For Tuple Call cons nil" => (k_here; (rename Fr _ _ _ _ => lF'w); (with_unfolding_all refine' For_turns lF'w ?_; k_whole))
  k_with "M kts_caught" => first | exact PutAt.same (by assumption) | assumption | (refine Eq.trans (PutAt.other (by assumption) _ (by decide)) ?_; k_extra "M kts_caught")
  k_with "M getAttr ref" => (k_here; k_dflt (refine' get_own ?zzk1 ?zzk2 ?zzk3 ?zzk4 ?zzk5 ?zzk6 ?zzk7 ?zzk8 ?zzk9 ?_; (case zzk1 => k_asm); (case zzk2 => k_asm); (case zzk3 => k_inst); (case zzk4 => k_is); (case zzk5 => k_is); (case zzk6 => k_is); (case zzk7 => k_is); (case zzk8 => kts_caught); (case zzk9 => k_handed); k_whole))
  k_with "M setAttr ref" => (k_here; k_dflt (refine' set_abs ?zzk1 ?zzk2 ?zzk3 ?zzk4 ?zzk5 ?zzk6 ?zzk7 ?zzk8 ?zzk9 ?zzk10 ?zzk12 ?zzk13 ?_; (case zzk1 => k_asm); (case zzk2 => k_asm); (case zzk3 => k_asm); (case zzk4 => k_inst); (case zzk5 => exact rfl); (case zzk6 => k_is); (case zzk7 => k_is); (case zzk8 => k_is); (case zzk9 => k_is); (case zzk10 => kts_caught); (case zzk12 => k_updF); (case zzk13 => assumption); k_whole); intro h'w es'w n'w F'w N'w P'w z'w; (try dsimp only at N'w))
  k_with "M call ref" => ((first | (with_reducible show wpAny _ _ (call (Value.ref 295) _) _ _ _) | (with_reducible show wpAny _ _ (call (Value.ref 281) _) _ _ _)); refine held ?_)
  trivial

theorem open_1 {w : World} {base h₀ : Heap} {outer : List Env} {env : Env} {L : Addr} {m mg mb : Str → Option Value} {p : Program} {loose : List Str} {mean : ExcName → Option Value} {s : Shared} {Q E : Value → Shared → Prop} {big : List (Addr × Obj)} {W dW dO dF : Addr} {esW : List DictEntry} {nW : Nat} {oO oF : Obj} {g : Obj → List (Addr × Obj)} {tm tn tc tz : Tok} {tb : Tok} {g2 : Obj → Obj → List (Addr × Obj)}
  (B : Below callerA base outer h₀) (F : Fr h₀ L s.heap m) (X : (hd.heap_1_39 w.params).In h₀) (T : Top p loose mean mg mb h₀) (hf : env.frame = some L) (hke : env.scope.kind = .function)
  (N : News h₀ L s.heap big) (mW : (W, instObj 386 dW) ∈ big) (mdW : (dW, dictOf esW nW) ∈ big) (UO : UpdF dO oO big g) (UF : ∀ o, UpdF dF oF (g o) (g2 o)) (mF : (dF, oF) ∈ big)
  (gO : getL "open" esW = some (some (.ref dO))) (gF : getL "files" esW = some (some (.ref dF)))
  (hO : oO.IsDictOf (PySem.intKind RW.row.prog w) []) (loO : (dO == sysModules) = false)
  (hF : oF.IsDictOf (PySem.strKind RW.row.prog w) [("B", .str "" tb)]) (loF : (dF == sysModules) = false)
  (ndOW : ¬ @Eq Nat W dO) (ndOdW : ¬ @Eq Nat dW dO) (ndOdF : ¬ @Eq Nat dF dO) (ndFW : ¬ @Eq Nat W dF) (ndFdW : ¬ @Eq Nat dW dF)
  (hQ : ∀ h' tk d9 o9 oO' oF' tf t1 t2 t3 t4 t5 t6, Fr h₀ L h' m → News h₀ L h' ((d9, o9) :: g2 oO' oF') → (∀ q ∈ big, ¬ @Eq Nat q.1 d9) → (d9 == sysModules) = false → o9.IsDictOf (PySem.strKind RW.row.prog w) [("mode", .str "O" t1), ("name", .str "A" t2), ("at", .int 0 t3), ("size", .int 0 t4), ("buffer", .str "" t5), ("record", .int 0 t6)] → oO'.IsDictOf (PySem.intKind RW.row.prog w) [(1, .ref d9)] → oF'.IsDictOf (PySem.strKind RW.row.prog w) [("B", .str "" tb), ("A", .str "" tf)] → Q .none { s with heap := h', toks := tk }) :
  wpAny (model RW.row.prog w) (callerA.deeper env) (call (.ref 288) [.ref W, .str "O" tm, .int 1 tc, .str "A" tn, .int 0 tz]) Q E s := by
  have BFN := And.intro F N
  revert X; k_fill; intro X
  refine wpAny_call ?_
  refine' law_def (ls := [(W, instObj 386 dW), (dW, dictOf esW nW), (dO, oO), (dF, oF)]) B F X T N ?hsub (Around.frames_deeper B.stack) hf hke ?k6 ?k7 ?k8 ?k9 ?kB ?_ ?c2 ?c3 ?c4 ?c5
  case hsub => intro q hq; simp only [List.mem_cons, List.not_mem_nil, or_false] at hq; rcases hq with rfl | rfl | rfl | rfl <;> first | exact mW | exact mdW | exact updF_has UO | exact mF
  case k6 => k_is
  case k7 => k_is
  case k8 => k_room
  case k9 => exact BindsTo.of_eq rfl
  case kB => exact locs rfl
  case c2 => exact rfl
  case c3 => exact rfl
  case c4 => exact rfl
  case c5 => decide
  clear F N
  intro g' L' h' hg F' N' B' X' T'
  k_fold
  have fin : ∀ (h9 : Heap) (tk : Nat) (m9 : Str → Option Value) (d9 : Addr) (o9 oO' : Obj) (oF' : Obj) (tf : Tok) (t1 t2 t3 t4 t5 t6 : Tok), Fr g' L' h9 m9 → News g' L' h9 [(d9, o9), (W, instObj 386 dW), (dW, dictOf esW nW), (dO, oO'), (dF, oF')] → (@LT.lt Nat _ W d9 ∧ @LT.lt Nat _ dW d9 ∧ @LT.lt Nat _ dO d9 ∧ @LT.lt Nat _ dF d9) → (d9 == sysModules) = false → o9.IsDictOf (PySem.strKind RW.row.prog w) [("mode", .str "O" t1), ("name", .str "A" t2), ("at", .int 0 t3), ("size", .int 0 t4), ("buffer", .str "" t5), ("record", .int 0 t6)] → oO'.IsDictOf (PySem.intKind RW.row.prog w) [(1, .ref d9)] → oF'.IsDictOf (PySem.strKind RW.row.prog w) [("B", .str "" tb), ("A", .str "" tf)] → LeaveN g' (fun ls' v s' => Fr h₀ L s'.heap m → (∀ q, (q ∈ ls' ∨ (q ∈ big ∧ q.1 ∉ [(W, instObj 386 dW), (dW, dictOf esW nW), (dO, oO), (dF, oF)].map (·.1))) → s'.heap.get? q.1 = some q.2 ∧ q.1 ≠ L ∧ h₀.get? q.1 = none) → Q v s') .none { s with heap := h9, toks := tk } := by
    intro h9 tk m9 d9 o9 oO' oF' tf t1 t2 t3 t4 t5 t6 F9 N9 hlt lo9 a1 a2 a3
    have hLS : ∀ q ∈ [(W, instObj 386 dW), (dW, dictOf esW nW), (dO, oO), (dF, oF)], q ∈ big := by
      intro q hq; simp only [List.mem_cons, List.not_mem_nil, or_false] at hq; rcases hq with rfl | rfl | rfl | rfl <;> first | exact mW | exact mdW | exact updF_has UO | exact mF
    refine ⟨_, _, _, F9, N9, fun Fh Hq => hQ h9 tk d9 o9 oO' oF' tf t1 t2 t3 t4 t5 t6 Fh (fun q hq => Hq q ?_) (fun q hq e => ?_) lo9 a1 a2 a3⟩
    · rcases List.mem_cons.mp hq with rfl | hq
      · exact .inl (.head _)
      · rcases updF_mem (UF oO') q hq with rfl | ⟨hq, nF⟩
        · exact .inl (by repeat (first | exact .head _ | refine .tail _ ?_))
        rcases updF_mem UO q hq with rfl | ⟨hq, nO⟩
        · exact .inl (by repeat (first | exact .head _ | refine .tail _ ?_))
        · by_cases hm : q.1 ∈ [(W, instObj 386 dW), (dW, dictOf esW nW), (dO, oO), (dF, oF)].map (·.1)
          · have hl := listed BFN.2 hLS hq hm
            simp only [List.mem_cons, List.not_mem_nil, or_false] at hl
            rcases hl with rfl | rfl | rfl | rfl <;> first | exact absurd rfl nO | exact absurd rfl nF | exact .inl (by repeat (first | exact .head _ | refine .tail _ ?_))
          · exact .inr ⟨hq, hm⟩
    · by_cases hm : q.1 ∈ [(W, instObj 386 dW), (dW, dictOf esW nW), (dO, oO), (dF, oF)].map (·.1)
      · have hl := listed BFN.2 hLS hq hm
        simp only [List.mem_cons, List.not_mem_nil, or_false] at hl
        rcases hl with rfl | rfl | rfl | rfl <;> (have e' : @Eq Nat _ _ := e; omega)
      · have z := hg _ _ (BFN.2 q hq).1 hm
        have z2 := (N9 (d9, o9) (.head _)).2.2
        rw [e] at z
        rw [z] at z2
        cases z2
  k_steps
  unfold Held
  refine (isw0 (List.Mem.head _) (.tail _ (.head _)) gO (.tail _ (.tail _ (.head _))) hO loO) ⟨Nat.le_of_ble_eq_true rfl, rfl, Nat.le_of_ble_eq_true rfl⟩ (by assumption) (by assumption) (by assumption) (by assumption) rfl rfl (by assumption) (fun v h9 tk9 hv F9 N9 => ?_)
  subst hv
  k_sweep
  k_steps
  unfold Held
  refine (cn_ok (cs := [65]) (by decide +kernel) (by decide +kernel) (by size_fits) (by decide +kernel) (by decide +kernel)) ⟨Nat.le_of_ble_eq_true rfl, rfl, Nat.le_of_ble_eq_true rfl⟩ (by assumption) (by assumption) (by assumption) (by assumption) rfl rfl (by assumption) (fun v h9 tk9 hv F9 N9 => ?_)
  subst hv
  k_sweep
  k_steps
  all_goals exact fin _ _ _ _ _ _ _ _ _ _ _ _ _ _ (by assumption) (by assumption) (by assumption) (by assumption) (by first | assumption | with_unfolding_all assumption) (by assumption) (by assumption)

theorem open_2 {w : World} {base h₀ : Heap} {outer : List Env} {env : Env} {L : Addr} {m mg mb : Str → Option Value} {p : Program} {loose : List Str} {mean : ExcName → Option Value} {s : Shared} {Q E : Value → Shared → Prop} {big : List (Addr × Obj)} {W dW dO dF : Addr} {esW : List DictEntry} {nW : Nat} {oO oF : Obj} {g : Obj → List (Addr × Obj)} {tm tn tc tz : Tok} {tb : Tok} {ta : Tok} {d1 : Addr} {o1 : Obj} {t11 t12 t13 t14 t15 t16 : Tok}
  (B : Below callerA base outer h₀) (F : Fr h₀ L s.heap m) (X : (hd.heap_1_39 w.params).In h₀) (T : Top p loose mean mg mb h₀) (hf : env.frame = some L) (hke : env.scope.kind = .function)
  (N : News h₀ L s.heap big) (mW : (W, instObj 386 dW) ∈ big) (mdW : (dW, dictOf esW nW) ∈ big) (UO : UpdF dO oO big g) (mF : (dF, oF) ∈ big) (m1 : (d1, o1) ∈ big)
  (gO : getL "open" esW = some (some (.ref dO))) (gF : getL "files" esW = some (some (.ref dF)))
  (hO : oO.IsDictOf (PySem.intKind RW.row.prog w) [(1, .ref d1)]) (loO : (dO == sysModules) = false)
  (hF : oF.IsDictOf (PySem.strKind RW.row.prog w) [("B", .str "" tb), ("A", .str "" ta)]) (loF : (dF == sysModules) = false)
  (h1 : o1.IsDictOf (PySem.strKind RW.row.prog w) [("mode", .str "O" t11), ("name", .str "A" t12), ("at", .int 0 t13), ("size", .int 0 t14), ("buffer", .str "" t15), ("record", .int 0 t16)]) (lo1 : (d1 == sysModules) = false)
  (ndOW : ¬ @Eq Nat W dO) (ndOdW : ¬ @Eq Nat dW dO) (ndOdF : ¬ @Eq Nat dF dO) (ndOd1 : ¬ @Eq Nat d1 dO)
  (hQ : ∀ h' tk d9 o9 oO' t1 t2 t3 t4 t5 t6, Fr h₀ L h' m → News h₀ L h' ((d9, o9) :: g oO') → (∀ q ∈ big, ¬ @Eq Nat q.1 d9) → (d9 == sysModules) = false → o9.IsDictOf (PySem.strKind RW.row.prog w) [("mode", .str "I" t1), ("name", .str "B" t2), ("at", .int 0 t3), ("size", .int 0 t4), ("buffer", .str "" t5), ("record", .int 0 t6)] → oO'.IsDictOf (PySem.intKind RW.row.prog w) [(1, .ref d1), (2, .ref d9)] → Q .none { s with heap := h', toks := tk }) :
  wpAny (model RW.row.prog w) (callerA.deeper env) (call (.ref 288) [.ref W, .str "I" tm, .int 2 tc, .str "B" tn, .int 0 tz]) Q E s := by
  have BFN := And.intro F N
  revert X; k_fill; intro X
  refine wpAny_call ?_
  refine' law_def (ls := [(W, instObj 386 dW), (dW, dictOf esW nW), (dO, oO), (dF, oF), (d1, o1)]) B F X T N ?hsub (Around.frames_deeper B.stack) hf hke ?k6 ?k7 ?k8 ?k9 ?kB ?_ ?c2 ?c3 ?c4 ?c5
  case hsub => intro q hq; simp only [List.mem_cons, List.not_mem_nil, or_false] at hq; rcases hq with rfl | rfl | rfl | rfl | rfl <;> first | exact mW | exact mdW | exact updF_has UO | exact mF | exact m1
  case k6 => k_is
  case k7 => k_is
  case k8 => k_room
  case k9 => exact BindsTo.of_eq rfl
  case kB => exact locs rfl
  case c2 => exact rfl
  case c3 => exact rfl
  case c4 => exact rfl
  case c5 => decide
  clear F N
  intro g' L' h' hg F' N' B' X' T'
  k_fold
  have fin : ∀ (h9 : Heap) (tk : Nat) (m9 : Str → Option Value) (d9 : Addr) (o9 oO' : Obj) (t1 t2 t3 t4 t5 t6 : Tok), Fr g' L' h9 m9 → News g' L' h9 [(d9, o9), (W, instObj 386 dW), (dW, dictOf esW nW), (dO, oO'), (dF, oF), (d1, o1)] → (@LT.lt Nat _ W d9 ∧ @LT.lt Nat _ dW d9 ∧ @LT.lt Nat _ dO d9 ∧ @LT.lt Nat _ dF d9 ∧ @LT.lt Nat _ d1 d9) → (d9 == sysModules) = false → o9.IsDictOf (PySem.strKind RW.row.prog w) [("mode", .str "I" t1), ("name", .str "B" t2), ("at", .int 0 t3), ("size", .int 0 t4), ("buffer", .str "" t5), ("record", .int 0 t6)] → oO'.IsDictOf (PySem.intKind RW.row.prog w) [(1, .ref d1), (2, .ref d9)] → LeaveN g' (fun ls' v s' => Fr h₀ L s'.heap m → (∀ q, (q ∈ ls' ∨ (q ∈ big ∧ q.1 ∉ [(W, instObj 386 dW), (dW, dictOf esW nW), (dO, oO), (dF, oF), (d1, o1)].map (·.1))) → s'.heap.get? q.1 = some q.2 ∧ q.1 ≠ L ∧ h₀.get? q.1 = none) → Q v s') .none { s with heap := h9, toks := tk } := by
    intro h9 tk m9 d9 o9 oO' t1 t2 t3 t4 t5 t6 F9 N9 hlt lo9 a1 a2
    have hLS : ∀ q ∈ [(W, instObj 386 dW), (dW, dictOf esW nW), (dO, oO), (dF, oF), (d1, o1)], q ∈ big := by
      intro q hq; simp only [List.mem_cons, List.not_mem_nil, or_false] at hq; rcases hq with rfl | rfl | rfl | rfl | rfl <;> first | exact mW | exact mdW | exact updF_has UO | exact mF | exact m1
    refine ⟨_, _, _, F9, N9, fun Fh Hq => hQ h9 tk d9 o9 oO' t1 t2 t3 t4 t5 t6 Fh (fun q hq => Hq q ?_) (fun q hq e => ?_) lo9 a1 a2⟩
    · rcases List.mem_cons.mp hq with rfl | hq
      · exact .inl (.head _)
      · skip
        skip
        rcases updF_mem UO q hq with rfl | ⟨hq, nO⟩
        · exact .inl (by repeat (first | exact .head _ | refine .tail _ ?_))
        · by_cases hm : q.1 ∈ [(W, instObj 386 dW), (dW, dictOf esW nW), (dO, oO), (dF, oF), (d1, o1)].map (·.1)
          · have hl := listed BFN.2 hLS hq hm
            simp only [List.mem_cons, List.not_mem_nil, or_false] at hl
            rcases hl with rfl | rfl | rfl | rfl | rfl <;> first | exact absurd rfl nO | exact .inl (by repeat (first | exact .head _ | refine .tail _ ?_))
          · exact .inr ⟨hq, hm⟩
    · by_cases hm : q.1 ∈ [(W, instObj 386 dW), (dW, dictOf esW nW), (dO, oO), (dF, oF), (d1, o1)].map (·.1)
      · have hl := listed BFN.2 hLS hq hm
        simp only [List.mem_cons, List.not_mem_nil, or_false] at hl
        rcases hl with rfl | rfl | rfl | rfl | rfl <;> (have e' : @Eq Nat _ _ := e; omega)
      · have z := hg _ _ (BFN.2 q hq).1 hm
        have z2 := (N9 (d9, o9) (.head _)).2.2
        rw [e] at z
        rw [z] at z2
        cases z2
  k_steps
  unfold Held
  refine (isw1 (List.Mem.head _) (.tail _ (.head _)) gO (.tail _ (.tail _ (.head _))) hO loO (.tail _ (.tail _ (.tail _ (.tail _ (.head _))))) h1 rfl) ⟨Nat.le_of_ble_eq_true rfl, rfl, Nat.le_of_ble_eq_true rfl⟩ (by assumption) (by assumption) (by assumption) (by assumption) rfl rfl (by assumption) (fun v h9 tk9 hv F9 N9 => ?_)
  subst hv
  k_sweep
  k_steps
  unfold Held
  refine (cn_ok (cs := [66]) (by decide +kernel) (by decide +kernel) (by size_fits) (by decide +kernel) (by decide +kernel)) ⟨Nat.le_of_ble_eq_true rfl, rfl, Nat.le_of_ble_eq_true rfl⟩ (by assumption) (by assumption) (by assumption) (by assumption) rfl rfl (by assumption) (fun v h9 tk9 hv F9 N9 => ?_)
  subst hv
  k_sweep
  k_steps
  all_goals exact fin _ _ _ _ _ _ _ _ _ _ _ _ (by assumption) (by assumption) (by assumption) (by assumption) (by first | assumption | with_unfolding_all assumption) (by assumption)

theorem open_3 {w : World} {base h₀ : Heap} {outer : List Env} {env : Env} {L : Addr} {m mg mb : Str → Option Value} {p : Program} {loose : List Str} {mean : ExcName → Option Value} {s : Shared} {Q E : Value → Shared → Prop} {big : List (Addr × Obj)} {W dW dO dF : Addr} {esW : List DictEntry} {nW : Nat} {oO oF : Obj} {g : Obj → List (Addr × Obj)} {tm tn tc tz : Tok} {tb : Tok} {ta : Tok} {g2 : Obj → Obj → List (Addr × Obj)} {d1 : Addr} {o1 : Obj} {t11 t12 t13 t14 t15 t16 : Tok} {d2 : Addr} {o2 : Obj} {t21 t22 t23 t24 t25 t26 : Tok}
  (B : Below callerA base outer h₀) (F : Fr h₀ L s.heap m) (X : (hd.heap_1_39 w.params).In h₀) (T : Top p loose mean mg mb h₀) (hf : env.frame = some L) (hke : env.scope.kind = .function)
  (N : News h₀ L s.heap big) (mW : (W, instObj 386 dW) ∈ big) (mdW : (dW, dictOf esW nW) ∈ big) (UO : UpdF dO oO big g) (UF : ∀ o, UpdF dF oF (g o) (g2 o)) (mF : (dF, oF) ∈ big) (m1 : (d1, o1) ∈ big) (m2 : (d2, o2) ∈ big)
  (gO : getL "open" esW = some (some (.ref dO))) (gF : getL "files" esW = some (some (.ref dF)))
  (hO : oO.IsDictOf (PySem.intKind RW.row.prog w) [(1, .ref d1), (2, .ref d2)]) (loO : (dO == sysModules) = false)
  (hF : oF.IsDictOf (PySem.strKind RW.row.prog w) [("B", .str "" tb), ("A", .str "" ta)]) (loF : (dF == sysModules) = false)
  (h1 : o1.IsDictOf (PySem.strKind RW.row.prog w) [("mode", .str "O" t11), ("name", .str "A" t12), ("at", .int 0 t13), ("size", .int 0 t14), ("buffer", .str "" t15), ("record", .int 0 t16)]) (lo1 : (d1 == sysModules) = false)
  (h2 : o2.IsDictOf (PySem.strKind RW.row.prog w) [("mode", .str "I" t21), ("name", .str "B" t22), ("at", .int 0 t23), ("size", .int 0 t24), ("buffer", .str "" t25), ("record", .int 0 t26)]) (lo2 : (d2 == sysModules) = false)
  (ndOW : ¬ @Eq Nat W dO) (ndOdW : ¬ @Eq Nat dW dO) (ndOdF : ¬ @Eq Nat dF dO) (ndOd1 : ¬ @Eq Nat d1 dO) (ndOd2 : ¬ @Eq Nat d2 dO) (ndFW : ¬ @Eq Nat W dF) (ndFdW : ¬ @Eq Nat dW dF) (ndFd1 : ¬ @Eq Nat d1 dF) (ndFd2 : ¬ @Eq Nat d2 dF)
  (hQ : ∀ h' tk d9 o9 oO' oF' tf t1 t2 t3 t4 t5 t6 buf, Fr h₀ L h' m → News h₀ L h' ((d9, o9) :: g2 oO' oF') → (∀ q ∈ big, ¬ @Eq Nat q.1 d9) → (d9 == sysModules) = false → o9.IsDictOf (PySem.strKind RW.row.prog w) [("mode", .str "R" t1), ("name", .str "C" t2), ("at", .int 0 t3), ("size", .int 8 t4), ("buffer", .str buf t5), ("record", .int 0 t6)] → oO'.IsDictOf (PySem.intKind RW.row.prog w) [(1, .ref d1), (2, .ref d2), (3, .ref d9)] → oF'.IsDictOf (PySem.strKind RW.row.prog w) [("B", .str "" tb), ("A", .str "" ta), ("C", .str "" tf)] → Q .none { s with heap := h', toks := tk }) :
  wpAny (model RW.row.prog w) (callerA.deeper env) (call (.ref 288) [.ref W, .str "R" tm, .int 3 tc, .str "C" tn, .int 8 tz]) Q E s := by
  have BFN := And.intro F N
  revert X; k_fill; intro X
  refine wpAny_call ?_
  refine' law_def (ls := [(W, instObj 386 dW), (dW, dictOf esW nW), (dO, oO), (dF, oF), (d1, o1), (d2, o2)]) B F X T N ?hsub (Around.frames_deeper B.stack) hf hke ?k6 ?k7 ?k8 ?k9 ?kB ?_ ?c2 ?c3 ?c4 ?c5
  case hsub => intro q hq; simp only [List.mem_cons, List.not_mem_nil, or_false] at hq; rcases hq with rfl | rfl | rfl | rfl | rfl | rfl <;> first | exact mW | exact mdW | exact updF_has UO | exact mF | exact m1 | exact m2
  case k6 => k_is
  case k7 => k_is
  case k8 => k_room
  case k9 => exact BindsTo.of_eq rfl
  case kB => exact locs rfl
  case c2 => exact rfl
  case c3 => exact rfl
  case c4 => exact rfl
  case c5 => decide
  clear F N
  intro g' L' h' hg F' N' B' X' T'
  k_fold
  have fin : ∀ (h9 : Heap) (tk : Nat) (m9 : Str → Option Value) (d9 : Addr) (o9 oO' : Obj) (oF' : Obj) (tf : Tok) (t1 t2 t3 t4 t5 t6 : Tok) (buf : Str), Fr g' L' h9 m9 → News g' L' h9 [(d9, o9), (W, instObj 386 dW), (dW, dictOf esW nW), (dO, oO'), (dF, oF'), (d1, o1), (d2, o2)] → (@LT.lt Nat _ W d9 ∧ @LT.lt Nat _ dW d9 ∧ @LT.lt Nat _ dO d9 ∧ @LT.lt Nat _ dF d9 ∧ @LT.lt Nat _ d1 d9 ∧ @LT.lt Nat _ d2 d9) → (d9 == sysModules) = false → o9.IsDictOf (PySem.strKind RW.row.prog w) [("mode", .str "R" t1), ("name", .str "C" t2), ("at", .int 0 t3), ("size", .int 8 t4), ("buffer", .str buf t5), ("record", .int 0 t6)] → oO'.IsDictOf (PySem.intKind RW.row.prog w) [(1, .ref d1), (2, .ref d2), (3, .ref d9)] → oF'.IsDictOf (PySem.strKind RW.row.prog w) [("B", .str "" tb), ("A", .str "" ta), ("C", .str "" tf)] → LeaveN g' (fun ls' v s' => Fr h₀ L s'.heap m → (∀ q, (q ∈ ls' ∨ (q ∈ big ∧ q.1 ∉ [(W, instObj 386 dW), (dW, dictOf esW nW), (dO, oO), (dF, oF), (d1, o1), (d2, o2)].map (·.1))) → s'.heap.get? q.1 = some q.2 ∧ q.1 ≠ L ∧ h₀.get? q.1 = none) → Q v s') .none { s with heap := h9, toks := tk } := by
    intro h9 tk m9 d9 o9 oO' oF' tf t1 t2 t3 t4 t5 t6 buf F9 N9 hlt lo9 a1 a2 a3
    have hLS : ∀ q ∈ [(W, instObj 386 dW), (dW, dictOf esW nW), (dO, oO), (dF, oF), (d1, o1), (d2, o2)], q ∈ big := by
      intro q hq; simp only [List.mem_cons, List.not_mem_nil, or_false] at hq; rcases hq with rfl | rfl | rfl | rfl | rfl | rfl <;> first | exact mW | exact mdW | exact updF_has UO | exact mF | exact m1 | exact m2
    refine ⟨_, _, _, F9, N9, fun Fh Hq => hQ h9 tk d9 o9 oO' oF' tf t1 t2 t3 t4 t5 t6 buf Fh (fun q hq => Hq q ?_) (fun q hq e => ?_) lo9 a1 a2 a3⟩
    · rcases List.mem_cons.mp hq with rfl | hq
      · exact .inl (.head _)
      · rcases updF_mem (UF oO') q hq with rfl | ⟨hq, nF⟩
        · exact .inl (by repeat (first | exact .head _ | refine .tail _ ?_))
        rcases updF_mem UO q hq with rfl | ⟨hq, nO⟩
        · exact .inl (by repeat (first | exact .head _ | refine .tail _ ?_))
        · by_cases hm : q.1 ∈ [(W, instObj 386 dW), (dW, dictOf esW nW), (dO, oO), (dF, oF), (d1, o1), (d2, o2)].map (·.1)
          · have hl := listed BFN.2 hLS hq hm
            simp only [List.mem_cons, List.not_mem_nil, or_false] at hl
            rcases hl with rfl | rfl | rfl | rfl | rfl | rfl <;> first | exact absurd rfl nO | exact absurd rfl nF | exact .inl (by repeat (first | exact .head _ | refine .tail _ ?_))
          · exact .inr ⟨hq, hm⟩
    · by_cases hm : q.1 ∈ [(W, instObj 386 dW), (dW, dictOf esW nW), (dO, oO), (dF, oF), (d1, o1), (d2, o2)].map (·.1)
      · have hl := listed BFN.2 hLS hq hm
        simp only [List.mem_cons, List.not_mem_nil, or_false] at hl
        rcases hl with rfl | rfl | rfl | rfl | rfl | rfl <;> (have e' : @Eq Nat _ _ := e; omega)
      · have z := hg _ _ (BFN.2 q hq).1 hm
        have z2 := (N9 (d9, o9) (.head _)).2.2
        rw [e] at z
        rw [z] at z2
        cases z2
  k_steps
  unfold Held
  refine (isw2 (List.Mem.head _) (.tail _ (.head _)) gO (.tail _ (.tail _ (.head _))) hO loO (.tail _ (.tail _ (.tail _ (.tail _ (.head _))))) h1 rfl (.tail _ (.tail _ (.tail _ (.tail _ (.tail _ (.head _)))))) h2 rfl) ⟨Nat.le_of_ble_eq_true rfl, rfl, Nat.le_of_ble_eq_true rfl⟩ (by assumption) (by assumption) (by assumption) (by assumption) rfl rfl (by assumption) (fun v h9 tk9 hv F9 N9 => ?_)
  subst hv
  k_sweep
  k_steps
  unfold Held
  refine (cn_ok (cs := [67]) (by decide +kernel) (by decide +kernel) (by size_fits) (by decide +kernel) (by decide +kernel)) ⟨Nat.le_of_ble_eq_true rfl, rfl, Nat.le_of_ble_eq_true rfl⟩ (by assumption) (by assumption) (by assumption) (by assumption) rfl rfl (by assumption) (fun v h9 tk9 hv F9 N9 => ?_)
  subst hv
  k_sweep
  k_steps
  all_goals exact fin _ _ _ _ _ _ _ _ _ _ _ _ _ _ _ (by assumption) (by assumption) (by assumption) (by assumption) (by first | assumption | with_unfolding_all assumption) (by assumption) (by assumption)
end
section
open PySem.Calls PySem.Spec PyProof.Rows.LCg
theorem w_V_gr_0 : True := by
  k_with_none
  k_with "M k_room" => ((try simp only [depth_mark, depth_under_make, depth_under_kw, depth_in1, depth_deeper]); exact Nat.lt_of_lt_of_le (m := 900) (by decide) (by decide))
  k_with "M exec Raise some none" => (k_here; (with_reducible show wpAny _ _ (exec (Stmt.Raise (some (Expr.Call (Expr.Name ("BasicError" : Str) _) _ [] _)) none _) _) _ _ _); k_dflt (refine' raise_K ?zzF ?zzX ?zzh ?_; (case zzF => k_asm); (case zzX => k_asm); (case zzh => first | rfl | assumption); k_whole))
  k_with "M call ref" => (k_here; k_dflt (refine wpAny_call ?_; refine' code_defC ?zzk1 ?zzk2 ?zzk3 ?zzk4 ?zzk5 ?zzkA ?zzkF ?zzkK ?zzk6 ?zzk7 ?zzk8 ?zzk9 ?zzkB ?zzkD ?_ ?zzc2 ?zzc3 ?zzc4; (case zzkA => exact Around.frames_deeper (Below.stack (by assumption))); (case zzkF => exact rfl); (case zzkK => exact rfl); (case zzk1 => k_asm); (case zzk2 => k_asm); (case zzk3 => k_asm); (case zzk4 => k_asm); (case zzk5 => k_asm); (case zzk6 => k_is); (case zzk7 => k_is); (case zzk8 => k_room); (case zzk9 => first | exact BindsTo.of_eq rfl | exact binds_K (by k_in) rfl (by k_is) rfl rfl rfl | fail "k_enter: no rule for these arguments"); (case zzkB => exact rfl); (case zzkD => decide +kernel); (case zzc2 => exact rfl); (case zzc3 => exact rfl); (case zzc4 => exact rfl); k_whole; intro g'w L'w h'w tk'w cells'w FG'w F'w N'w Y'w B'w X'w T'w l1'w; (try k_lt l1'w); k_cells Y'w; (try simp only [List.cons_append, List.nil_append] at N'w); (try dsimp only); (try k_lift B'w); (try k_fold)))
  k_with "M call ref" => (k_here; k_dflt (refine wpAny_call ?_; refine' code_def ?zzk1 ?zzk2 ?zzk3 ?zzk4 ?zzk5 ?zzkA ?zzkF ?zzkK ?zzk6 ?zzk7 ?zzk8 ?zzk9 ?zzkB ?_ ?zzc2 ?zzc3 ?zzc4 ?zzc5; (case zzkA => exact Around.frames_deeper (Below.stack (by assumption))); (case zzkF => exact rfl); (case zzkK => exact rfl); (case zzk1 => k_asm); (case zzk2 => k_asm); (case zzk3 => k_asm); (case zzk4 => k_asm); (case zzk5 => k_asm); (case zzk6 => k_is); (case zzk7 => k_is); (case zzk8 => k_room); (case zzk9 => first | exact BindsTo.of_eq rfl | exact binds_K (by k_in) rfl (by k_is) rfl rfl rfl | fail "k_enter: no rule for these arguments"); (case zzc5 => decide); (case zzkB => exact locs rfl); (case zzc2 => exact rfl); (case zzc3 => exact rfl); (case zzc4 => exact rfl); k_whole; intro g'w L'w h'w FG'w F'w N'w B'w X'w T'w; (try dsimp only); (try k_lift B'w); (try k_fold)))
  k_with "M call ref" => (k_here; (with_reducible show wpAny _ _ (call (Value.ref 34) _) _ _ _); k_dflt (refine' bx_make ?zzF ?zzX ?zzT ?zzr ?zzl ?_; (case zzF => k_asm); (case zzX => k_asm); (case zzT => k_asm); (case zzr => k_room); (case zzl => first | exact Nat.zero_le _ | exact Nat.le_refl _); k_whole); intro h'w tk'w e'w dx'w mb'w)
  k_with "M RaisesB" => (k_dflt (refine' raisesB_K ?zzF ?zzM ?_; (case zzF => k_asm); (case zzM => assumption); k_whole))
  k_with "M leaving ref" => (k_here; first
  | (refine' leave_newB ?zzk1 ?zzk0 ?zzk2 ?zzk3 ?zzkf ?zzkk ?_; (case zzk0 => assumption); (case zzk1 => assumption); (case zzk2 => assumption); (case zzk3 => k_asm); (case zzkf => rfl); (case zzkk => rfl); k_whole; intro h'w R'w U'w; (try dsimp only at R'w U'w ⊢))
  | (refine' leave_onB ?zzk1 ?zzk2 ?zzk3 ?zzk4 ?zzkf ?_; (case zzk3 => assumption); (case zzk1 => assumption); (case zzk4 => assumption); (case zzk2 => assumption); (case zzkf => rfl); k_whole; intro h'w R'w U'w; (try dsimp only at R'w U'w ⊢)))
  k_with "M getAttr ref" => (k_here; k_dflt (refine' get_own ?zzk1 ?zzk2 ?zzk3 ?zzk4 ?zzk5 ?zzk6 ?zzk7 ?zzk8 ?zzk9 ?_; (case zzk1 => k_asm); (case zzk2 => k_asm); (case zzk3 => k_inst); (case zzk4 => k_is); (case zzk5 => k_is); (case zzk6 => k_is); (case zzk7 => k_is); (case zzk8 => assumption); (case zzk9 => k_handed); k_whole))
  k_with "M eval Name" => (k_here; kc_free; k_dflt (refine' nameX_F ?zzN ?zzc ?zzm ?zzd ?_ ?zza ?zzb; (case zza => rfl); (case zzb => rfl); (case zzN => k_asm); (case zzc => rfl); (case zzm => k_mem); (case zzd => assumption); k_whole))
  k_with "M compareOp In int ref" => (k_here; k_dflt (refine kda_in (knd := PySem.intKind _ _) (by k_asm) (by k_mem) (by k_asm) (by k_asm) (intKind_is _ _ _ _) false (not_three (by omega) (by omega) (by omega)) ?_))
  k_with "M compareOp NotIn int ref" => (k_here; k_dflt (refine kdg_notin (knd := PySem.intKind _ _) (by k_asm) (by k_mem) (by k_asm) (by k_asm) (intKind_is _ _ _ _) false (not_three (by omega) (by omega) (by omega)) ?_))
  k_with "M exec For Name Attribute cons nil" => (k_here; (rename Fr _ _ _ _ => lF'w); (with_unfolding_all refine' For_turns lF'w ?_; k_whole))
  k_with "M pyIter ref" => (k_here; (with_reducible show wpAny _ _ (pyIter (Value.ref _)) (fun it s₂ => TurnsAt _ _ _ _ _ _ _ _ _ it s₂) _ _); (rename Fr _ _ _ _ => lF'w); (rename News _ _ _ _ => lN'w); (with_unfolding_all first
  | refine kta_keys (knd := PySem.intKind _ _) (enc := PyData.int) (xs := [Itm.tok (fun t => Value.int 1 t), Itm.tok (fun t => Value.int 2 t), Itm.tok (fun t => Value.int 3 t)]) (by rfl) lF'w lN'w (by k_mem) (by k_asm) (by k_asm) (fun _ _ h => Value.isInt_shape h) (by rfl) ?_
  | refine kta_keys (knd := PySem.intKind _ _) (enc := PyData.int) (xs := [Itm.tok (fun t => Value.int 1 t), Itm.tok (fun t => Value.int 2 t)]) (by rfl) lF'w lN'w (by k_mem) (by k_asm) (by k_asm) (fun _ _ h => Value.isInt_shape h) (by rfl) ?_
  | refine kta_keys (knd := PySem.intKind _ _) (enc := PyData.int) (xs := [Itm.tok (fun t => Value.int 1 t)]) (by rfl) lF'w lN'w (by k_mem) (by k_asm) (by k_asm) (fun _ _ h => Value.isInt_shape h) (by rfl) ?_
  | refine kta_keys (knd := PySem.intKind _ _) (enc := PyData.int) (xs := []) (by rfl) lF'w lN'w (by k_mem) (by k_asm) (by k_asm) (fun _ _ h => Value.isInt_shape h) (by rfl) ?_); clear lF'w lN'w; intro i'w l1'w; (try k_lt l1'w))
  k_with "M And" => (k_here; (exact ⟨by first | rfl | exact decide_eq_false (by omega), _, rfl⟩))
  k_with "M exec For Tuple Call cons nil" => (k_here; (rename Fr _ _ _ _ => lF'w); (with_unfolding_all refine' For_turns lF'w ?_; k_whole))
  k_with "M kts_caught" => first | exact PutAt.same (by assumption) | assumption | (refine Eq.trans (PutAt.other (by assumption) _ (by decide)) ?_; k_extra "M kts_caught")
  k_with "M getAttr ref" => (k_here; k_dflt (refine' get_own ?zzk1 ?zzk2 ?zzk3 ?zzk4 ?zzk5 ?zzk6 ?zzk7 ?zzk8 ?zzk9 ?_; (case zzk1 => k_asm); (case zzk2 => k_asm); (case zzk3 => k_inst); (case zzk4 => k_is); (case zzk5 => k_is); (case zzk6 => k_is); (case zzk7 => k_is); (case zzk8 => kts_caught); (case zzk9 => k_handed); k_whole))
  k_with "M setAttr ref" => (k_here; k_dflt (refine' set_abs ?zzk1 ?zzk2 ?zzk3 ?zzk4 ?zzk5 ?zzk6 ?zzk7 ?zzk8 ?zzk9 ?zzk10 ?zzk12 ?zzk13 ?_; (case zzk1 => k_asm); (case zzk2 => k_asm); (case zzk3 => k_asm); (case zzk4 => k_inst); (case zzk5 => exact rfl); (case zzk6 => k_is); (case zzk7 => k_is); (case zzk8 => k_is); (case zzk9 => k_is); (case zzk10 => kts_caught); (case zzk12 => k_updF); (case zzk13 => assumption); k_whole); intro h'w es'w n'w F'w N'w P'w z'w; (try dsimp only at N'w))
  k_with "M binaryOp Mult ref int" => (k_here; (with_reducible show wpAny _ _ (binaryOp _ _ (Value.int (1 * (3 - 0 + 1)) _)) _ _ _); (rw [show ((1 : Int) * (3 - 0 + 1)) = 4 from rfl]))
  k_with "M pyIter ref" => ((with_reducible show wpAny _ _ (pyIter (Value.ref _)) (fun it s₂ => LoopAtV _ _ _ _ _ _ _ _ _ it s₂) _ _); l_hasStore; k_listUnr)
  k_with "M call ref" => ((first | (with_reducible show wpAny _ _ (call (Value.ref 72) _) _ _ _) | (with_reducible show wpAny _ _ (call (Value.ref 248) _) _ _ _) | (with_reducible show wpAny _ _ (call (Value.ref 262) _) _ _ _) | (with_reducible show wpAny _ _ (call (Value.ref 255) _) _ _ _)); refine held ?_)
  k_with "M k_mem" => first | assumption | exact List.Mem.head _ | (refine' List.Mem.tail _ ?_; k_extra "M k_mem")
  k_with "M call type:list" => (k_here; k_dflt (refine' kup_listOf (by k_asm) (by k_asm) (by k_mem) rfl ?_ (by rw [sizeLine_eq]; decide)); intro D'w c'w h'w F'w N'w l1'w; (try k_lt l1'w); (try k_sweep))
  trivial

theorem grid_K {w : World} {base h₀ : Heap} {L : Addr} {m mg mb : Str → Option Value} {p : Program} {loose : List Str} {mean : ExcName → Option Value} {s : Shared} {Q E : Value → Shared → Prop} {big : List (Addr × Obj)} {e1 : Env} {cn : Str} {nm : List (Str × NameKind)} {ig ic : Bool} {mo : List (Str × Const)} {a : Addr} {ccd : Value} {cl : List (Str × Addr)} {H : Addr} {t1 t2 t3 : Tok} {nH : Nat}
  (B : Below (callerA.deeper e1) base [e1] h₀) (F : Fr h₀ L s.heap m) (X : (hd.heap_1_39 w.params).In h₀) (T : Top p loose mean mg mb h₀)
  (N : News h₀ L s.heap big) (mH : (H, listOf #[.int 3 t3] nH) ∈ big)
  (hQ : ∀ h' tk G dG HL esG nG cG th tgb, Fr h₀ L h' m → News h₀ L h' ((G, instObj 237 dG) :: (dG, dictOf esG nG) :: (HL, listOf #[.int 3 th] cG) :: big) → (∀ q ∈ big, ¬ q.1 = G ∧ ¬ q.1 = dG ∧ ¬ q.1 = HL) → getL "highs" esG = some (some (.ref HL)) → getL "base" esG = some (some (.int 0 tgb)) → Q (.ref G) { s with heap := h', toks := tk }) :
  wpAny (model RW.row.prog w) ((callerA.deeper e1).deeper (envX cn { kind := .function, names := nm, isGenerator := ig, isCoroutine := ic, more := mo } L a ccd cl)) (call (.ref 237) [.str "decimal" t1, .ref H, .int 0 t2]) Q E s := by
  revert X; k_fill; intro X
  k_steps
  unfold Held
  refine first_v ⟨Nat.le_of_ble_eq_true rfl, rfl, Nat.le_of_ble_eq_true rfl⟩ (by assumption) (by assumption) (by assumption) (by assumption) rfl rfl (by assumption) (fun v h9 tk9 hv F9 N9 => ?_)
  obtain ⟨T9, rfl⟩ := hv
  k_sweep
  k_steps
  unfold Held
  refine (count_4 (nn := 305) (List.Mem.tail _ (.tail _ (.tail _ (.tail _ mH)))) (by decide)) ⟨Nat.le_of_ble_eq_true rfl, rfl, Nat.le_of_ble_eq_true rfl⟩ (by assumption) (by assumption) (by assumption) (by assumption) rfl rfl (by assumption) (fun v h9 tk9 hv F9 N9 => ?_)
  obtain ⟨t9, rfl⟩ := hv
  k_sweep
  k_steps
  refine KMa.mul (vs := [_]) (ws := [_, _, _, _]) F9 N9 (News.isList N9 (.head _)) (by decide) (by decide) (Nat.le_of_ble_eq_true rfl) rfl ?_
  intro D8 h8 F8 N8 l8
  (try k_lt l8)
  k_steps
  rename News h₀ L _ _ => N7
  rename Fr h₀ L _ _ => F7
  refine hQ _ _ _ _ _ _ _ _ _ _ F7 (pickN N7 (List.forall_mem_cons.mpr ⟨.tail _ (.tail _ (.tail _ (.head _))), List.forall_mem_cons.mpr ⟨.tail _ (.tail _ (.tail _ (.tail _ (.head _)))), List.forall_mem_cons.mpr ⟨.tail _ (.tail _ (.head _)), fun q hq => .tail _ (.tail _ (.tail _ (.tail _ (.tail _ (hq)))))⟩⟩⟩)) (fun q hq => ?_) rfl rfl
  refine ⟨Nat.ne_of_lt ?_, Nat.ne_of_lt ?_, Nat.ne_of_lt ?_⟩
  · first | exact Nat.lt_trans (ktn_ltOf (by assumption) q hq) (by assumption) | exact Nat.lt_trans ((show ∀ p ∈ big, p.1 < _ from by assumption) q hq) (by assumption)
  · first | exact ktn_ltOf (by assumption) q hq | exact (show ∀ p ∈ big, p.1 < _ from by assumption) q hq
  · exact ktn_ltOf (And.right (And.right (by assumption))) q hq
end
section
open PySem.Calls PySem.Spec PyProof.Rows.LCg
theorem w_V_dim_0 : True := by
  k_with_none
  k_with "M k_room" => ((try simp only [depth_mark, depth_under_make, depth_under_kw, depth_in1, depth_deeper]); exact Nat.lt_of_lt_of_le (m := 900) (by decide) (by decide))
  k_with "M exec Raise some none" => (k_here; (with_reducible show wpAny _ _ (exec (Stmt.Raise (some (Expr.Call (Expr.Name ("BasicError" : Str) _) _ [] _)) none _) _) _ _ _); k_dflt (refine' raise_K ?zzF ?zzX ?zzh ?_; (case zzF => k_asm); (case zzX => k_asm); (case zzh => first | rfl | assumption); k_whole))
  k_with "M call ref" => (k_here; k_dflt (refine wpAny_call ?_; refine' code_defC ?zzk1 ?zzk2 ?zzk3 ?zzk4 ?zzk5 ?zzkA ?zzkF ?zzkK ?zzk6 ?zzk7 ?zzk8 ?zzk9 ?zzkB ?zzkD ?_ ?zzc2 ?zzc3 ?zzc4; (case zzkA => exact Around.frames_deeper (Below.stack (by assumption))); (case zzkF => exact rfl); (case zzkK => exact rfl); (case zzk1 => k_asm); (case zzk2 => k_asm); (case zzk3 => k_asm); (case zzk4 => k_asm); (case zzk5 => k_asm); (case zzk6 => k_is); (case zzk7 => k_is); (case zzk8 => k_room); (case zzk9 => first | exact BindsTo.of_eq rfl | exact binds_K (by k_in) rfl (by k_is) rfl rfl rfl | fail "k_enter: no rule for these arguments"); (case zzkB => exact rfl); (case zzkD => decide +kernel); (case zzc2 => exact rfl); (case zzc3 => exact rfl); (case zzc4 => exact rfl); k_whole; intro g'w L'w h'w tk'w cells'w FG'w F'w N'w Y'w B'w X'w T'w l1'w; (try k_lt l1'w); k_cells Y'w; (try simp only [List.cons_append, List.nil_append] at N'w); (try dsimp only); (try k_lift B'w); (try k_fold)))
  k_with "M call ref" => (k_here; k_dflt (refine wpAny_call ?_; refine' code_def ?zzk1 ?zzk2 ?zzk3 ?zzk4 ?zzk5 ?zzkA ?zzkF ?zzkK ?zzk6 ?zzk7 ?zzk8 ?zzk9 ?zzkB ?_ ?zzc2 ?zzc3 ?zzc4 ?zzc5; (case zzkA => exact Around.frames_deeper (Below.stack (by assumption))); (case zzkF => exact rfl); (case zzkK => exact rfl); (case zzk1 => k_asm); (case zzk2 => k_asm); (case zzk3 => k_asm); (case zzk4 => k_asm); (case zzk5 => k_asm); (case zzk6 => k_is); (case zzk7 => k_is); (case zzk8 => k_room); (case zzk9 => first | exact BindsTo.of_eq rfl | exact binds_K (by k_in) rfl (by k_is) rfl rfl rfl | fail "k_enter: no rule for these arguments"); (case zzc5 => decide); (case zzkB => exact locs rfl); (case zzc2 => exact rfl); (case zzc3 => exact rfl); (case zzc4 => exact rfl); k_whole; intro g'w L'w h'w FG'w F'w N'w B'w X'w T'w; (try dsimp only); (try k_lift B'w); (try k_fold)))
  k_with "M call ref" => (k_here; (with_reducible show wpAny _ _ (call (Value.ref 34) _) _ _ _); k_dflt (refine' bx_make ?zzF ?zzX ?zzT ?zzr ?zzl ?_; (case zzF => k_asm); (case zzX => k_asm); (case zzT => k_asm); (case zzr => k_room); (case zzl => first | exact Nat.zero_le _ | exact Nat.le_refl _); k_whole); intro h'w tk'w e'w dx'w mb'w)
  k_with "M RaisesB" => (k_dflt (refine' raisesB_K ?zzF ?zzM ?_; (case zzF => k_asm); (case zzM => assumption); k_whole))
  k_with "M leaving ref" => (k_here; first
  | (refine' leave_newB ?zzk1 ?zzk0 ?zzk2 ?zzk3 ?zzkf ?zzkk ?_; (case zzk0 => assumption); (case zzk1 => assumption); (case zzk2 => assumption); (case zzk3 => k_asm); (case zzkf => rfl); (case zzkk => rfl); k_whole; intro h'w R'w U'w; (try dsimp only at R'w U'w ⊢))
  | (refine' leave_onB ?zzk1 ?zzk2 ?zzk3 ?zzk4 ?zzkf ?_; (case zzk3 => assumption); (case zzk1 => assumption); (case zzk4 => assumption); (case zzk2 => assumption); (case zzkf => rfl); k_whole; intro h'w R'w U'w; (try dsimp only at R'w U'w ⊢)))
  k_with "M getAttr ref" => (k_here; k_dflt (refine' get_own ?zzk1 ?zzk2 ?zzk3 ?zzk4 ?zzk5 ?zzk6 ?zzk7 ?zzk8 ?zzk9 ?_; (case zzk1 => k_asm); (case zzk2 => k_asm); (case zzk3 => k_inst); (case zzk4 => k_is); (case zzk5 => k_is); (case zzk6 => k_is); (case zzk7 => k_is); (case zzk8 => assumption); (case zzk9 => k_handed); k_whole))
  k_with "M eval Name" => (k_here; kc_free; k_dflt (refine' nameX_F ?zzN ?zzc ?zzm ?zzd ?_ ?zza ?zzb; (case zza => rfl); (case zzb => rfl); (case zzN => k_asm); (case zzc => rfl); (case zzm => k_mem); (case zzd => assumption); k_whole))
  k_with "M compareOp In int ref" => (k_here; k_dflt (refine kda_in (knd := PySem.intKind _ _) (by k_asm) (by k_mem) (by k_asm) (by k_asm) (intKind_is _ _ _ _) false (not_three (by omega) (by omega) (by omega)) ?_))
  k_with "M compareOp NotIn int ref" => (k_here; k_dflt (refine kdg_notin (knd := PySem.intKind _ _) (by k_asm) (by k_mem) (by k_asm) (by k_asm) (intKind_is _ _ _ _) false (not_three (by omega) (by omega) (by omega)) ?_))
  k_with "M exec For Name Attribute cons nil" => (k_here; (rename Fr _ _ _ _ => lF'w); (with_unfolding_all refine' For_turns lF'w ?_; k_whole))
  k_with "M pyIter ref" => (k_here; (with_reducible show wpAny _ _ (pyIter (Value.ref _)) (fun it s₂ => TurnsAt _ _ _ _ _ _ _ _ _ it s₂) _ _); (rename Fr _ _ _ _ => lF'w); (rename News _ _ _ _ => lN'w); (with_unfolding_all first
  | refine kta_keys (knd := PySem.intKind _ _) (enc := PyData.int) (xs := [Itm.tok (fun t => Value.int 1 t), Itm.tok (fun t => Value.int 2 t), Itm.tok (fun t => Value.int 3 t)]) (by rfl) lF'w lN'w (by k_mem) (by k_asm) (by k_asm) (fun _ _ h => Value.isInt_shape h) (by rfl) ?_
  | refine kta_keys (knd := PySem.intKind _ _) (enc := PyData.int) (xs := [Itm.tok (fun t => Value.int 1 t), Itm.tok (fun t => Value.int 2 t)]) (by rfl) lF'w lN'w (by k_mem) (by k_asm) (by k_asm) (fun _ _ h => Value.isInt_shape h) (by rfl) ?_
  | refine kta_keys (knd := PySem.intKind _ _) (enc := PyData.int) (xs := [Itm.tok (fun t => Value.int 1 t)]) (by rfl) lF'w lN'w (by k_mem) (by k_asm) (by k_asm) (fun _ _ h => Value.isInt_shape h) (by rfl) ?_
  | refine kta_keys (knd := PySem.intKind _ _) (enc := PyData.int) (xs := []) (by rfl) lF'w lN'w (by k_mem) (by k_asm) (by k_asm) (fun _ _ h => Value.isInt_shape h) (by rfl) ?_); clear lF'w lN'w; intro i'w l1'w; (try k_lt l1'w))
  k_with "M And" => (k_here; (exact ⟨by first | rfl | exact decide_eq_false (by omega), _, rfl⟩))
  k_with "M exec For Tuple Call cons nil" => (k_here; (rename Fr _ _ _ _ => lF'w); (with_unfolding_all refine' For_turns lF'w ?_; k_whole))
  k_with "M kts_caught" => first | exact PutAt.same (by assumption) | assumption | (refine Eq.trans (PutAt.other (by assumption) _ (by decide)) ?_; k_extra "M kts_caught")
  k_with "M getAttr ref" => (k_here; k_dflt (refine' get_own ?zzk1 ?zzk2 ?zzk3 ?zzk4 ?zzk5 ?zzk6 ?zzk7 ?zzk8 ?zzk9 ?_; (case zzk1 => k_asm); (case zzk2 => k_asm); (case zzk3 => k_inst); (case zzk4 => k_is); (case zzk5 => k_is); (case zzk6 => k_is); (case zzk7 => k_is); (case zzk8 => kts_caught); (case zzk9 => k_handed); k_whole))
  k_with "M setAttr ref" => (k_here; k_dflt (refine' set_abs ?zzk1 ?zzk2 ?zzk3 ?zzk4 ?zzk5 ?zzk6 ?zzk7 ?zzk8 ?zzk9 ?zzk10 ?zzk12 ?zzk13 ?_; (case zzk1 => k_asm); (case zzk2 => k_asm); (case zzk3 => k_asm); (case zzk4 => k_inst); (case zzk5 => exact rfl); (case zzk6 => k_is); (case zzk7 => k_is); (case zzk8 => k_is); (case zzk9 => k_is); (case zzk10 => kts_caught); (case zzk12 => k_updF); (case zzk13 => assumption); k_whole); intro h'w es'w n'w F'w N'w P'w z'w; (try dsimp only at N'w))
  k_with "M binaryOp Mult ref int" => (k_here; (with_reducible show wpAny _ _ (binaryOp _ _ (Value.int (1 * (3 - 0 + 1)) _)) _ _ _); (rw [show ((1 : Int) * (3 - 0 + 1)) = 4 from rfl]))
  k_with "M pyIter ref" => ((with_reducible show wpAny _ _ (pyIter (Value.ref _)) (fun it s₂ => LoopAtV _ _ _ _ _ _ _ _ _ it s₂) _ _); l_hasStore; k_listUnr)
  k_with "M call ref" => ((first | (with_reducible show wpAny _ _ (call (Value.ref 72) _) _ _ _) | (with_reducible show wpAny _ _ (call (Value.ref 248) _) _ _ _) | (with_reducible show wpAny _ _ (call (Value.ref 262) _) _ _ _) | (with_reducible show wpAny _ _ (call (Value.ref 255) _) _ _ _)); refine held ?_)
  k_with "M k_mem" => first | assumption | exact List.Mem.head _ | (refine' List.Mem.tail _ ?_; k_extra "M k_mem")
  k_with "M call type:list" => (k_here; k_dflt (refine' kup_listOf (by k_asm) (by k_asm) (by k_mem) rfl ?_ (by rw [sizeLine_eq]; decide)); intro D'w c'w h'w F'w N'w l1'w; (try k_lt l1'w); (try k_sweep))
  k_with "M call ref" => ((with_reducible show wpAny _ _ (call (Value.ref 237) _) _ _ _); refine held ?_)
  trivial

theorem dim_K {w : World} {base h₀ : Heap} {env : Env} {L : Addr} {m mg mb : Str → Option Value} {p : Program} {loose : List Str} {mean : ExcName → Option Value} {s : Shared} {Q E : Value → Shared → Prop} {big : List (Addr × Obj)} {W dW dA dK x : Addr} {esW : List DictEntry} {nW nx : Nat} {oA oK0 : Obj} {g : Obj → List (Addr × Obj)} {tg t3 tb tr : Tok}
  (B : Below callerA base [] h₀) (F : Fr h₀ L s.heap m) (X : (hd.heap_1_39 w.params).In h₀) (T : Top p loose mean mg mb h₀) (hf : env.frame = some L) (hke : env.scope.kind = .function)
  (N : News h₀ L s.heap big) (mW : (W, instObj 386 dW) ∈ big) (mdW : (dW, dictOf esW nW) ∈ big) (UA : UpdF dA oA big g) (mK : (dK, oK0) ∈ big) (mx : (x, listOf #[.int 3 t3] nx) ∈ big)
  (gA : getL "arrays" esW = some (some (.ref dA))) (gK : getL "kinds" esW = some (some (.ref dK))) (gB : getL "base" esW = some (some (.int 0 tb))) (gR : getL "room" esW = some (some (.int 2000 tr)))
  (hA : oA.IsDictOf (PySem.strKind RW.row.prog w) []) (loA : (dA == sysModules) = false) (hKn : oK0.IsDictOf (PySem.strKind RW.row.prog w) []) (loK : (dK == sysModules) = false)
  (nA1 : ¬ @Eq Nat W dA) (nA2 : ¬ @Eq Nat dW dA) (nA3 : ¬ @Eq Nat dK dA) (nA4 : ¬ @Eq Nat x dA)
  (hQ : ∀ h' tk G dG HL esG nG cG th tgb oA', Fr h₀ L h' m → News h₀ L h' ((G, instObj 237 dG) :: (dG, dictOf esG nG) :: (HL, listOf #[.int 3 th] cG) :: g oA') → (∀ q ∈ big, ¬ q.1 = G ∧ ¬ q.1 = dG ∧ ¬ q.1 = HL) → getL "highs" esG = some (some (.ref HL)) → getL "base" esG = some (some (.int 0 tgb)) → oA'.IsDictOf (PySem.strKind RW.row.prog w) [("G", .ref G)] → Q .none { s with heap := h', toks := tk }) :
  wpAny (model RW.row.prog w) (callerA.deeper env) (call (.ref 269) [.ref W, .str "G" tg, .ref x]) Q E s := by
  have BFN := And.intro F N
  revert X; k_fill; intro X
  refine wpAny_call ?_
  refine' law_def (ls := [(W, instObj 386 dW), (dW, dictOf esW nW), (dA, oA), (dK, oK0), (x, listOf #[.int 3 t3] nx)]) B F X T N ?hsub (Around.frames_deeper B.stack) hf hke ?k6 ?k7 ?k8 ?k9 ?kB ?_ ?c2 ?c3 ?c4 ?c5
  case hsub => intro q hq; simp only [List.mem_cons, List.not_mem_nil, or_false] at hq; rcases hq with rfl | rfl | rfl | rfl | rfl <;> first | exact mW | exact mdW | exact updF_has UA | exact mK | exact mx
  case k6 => k_is
  case k7 => k_is
  case k8 => k_room
  case k9 => exact BindsTo.of_eq rfl
  case kB => exact locs rfl
  case c2 => exact rfl
  case c3 => exact rfl
  case c4 => exact rfl
  case c5 => decide
  clear F N
  intro g' L' h' hg F' N' B' X' T'
  k_fold
  have hLS : ∀ q ∈ [(W, instObj 386 dW), (dW, dictOf esW nW), (dA, oA), (dK, oK0), (x, listOf #[.int 3 t3] nx)], q ∈ big := by
    intro q hq; simp only [List.mem_cons, List.not_mem_nil, or_false] at hq; rcases hq with rfl | rfl | rfl | rfl | rfl <;> first | exact mW | exact mdW | exact updF_has UA | exact mK | exact mx
  have fin : ∀ (h9 : Heap) (tk : Nat) (m9 : Str → Option Value) (G dG HL : Addr) (esG : List DictEntry) (nG cG : Nat) (th tgb : Tok) (oA' : Obj), Fr g' L' h9 m9 → News g' L' h9 ([(G, instObj 237 dG), (dG, dictOf esG nG), (HL, listOf #[.int 3 th] cG)] ++ [(W, instObj 386 dW), (dW, dictOf esW nW), (dA, oA'), (dK, oK0), (x, listOf #[.int 3 t3] nx)]) → (∀ q ∈ ([(W, instObj 386 dW), (dW, dictOf esW nW), (dA, oA), (dK, oK0), (x, listOf #[.int 3 t3] nx)] : List (Addr × Obj)), ¬ q.1 = G ∧ ¬ q.1 = dG ∧ ¬ q.1 = HL) → getL "highs" esG = some (some (.ref HL)) → getL "base" esG = some (some (.int 0 tgb)) → oA'.IsDictOf (PySem.strKind RW.row.prog w) [("G", .ref G)] →
      LeaveN g' (fun ls' v s' => Fr h₀ L s'.heap m → (∀ q, (q ∈ ls' ∨ (q ∈ big ∧ q.1 ∉ [(W, instObj 386 dW), (dW, dictOf esW nW), (dA, oA), (dK, oK0), (x, listOf #[.int 3 t3] nx)].map (·.1))) → s'.heap.get? q.1 = some q.2 ∧ q.1 ≠ L ∧ h₀.get? q.1 = none) → Q v s') .none { s with heap := h9, toks := tk } := by
    intro h9 tk m9 G dG HL esG nG cG th tgb oA' F9 N9 hlt e1 e2 a1
    refine ⟨_, _, _, F9, N9, fun Fh Hq => hQ h9 tk G dG HL esG nG cG th tgb oA' Fh (fun q hq => Hq q ?_) (fun q hq => ?_) e1 e2 a1⟩
    · rcases List.mem_append.mp (show q ∈ [(G, instObj 237 dG), (dG, dictOf esG nG), (HL, listOf #[.int 3 th] cG)] ++ g oA' from hq) with hq | hq
      · exact .inl (List.mem_append_left _ hq)
      · rcases updF_mem UA q hq with rfl | ⟨hq, nO⟩
        · exact .inl (by repeat (first | exact .head _ | refine .tail _ ?_))
        · by_cases hm : q.1 ∈ [(W, instObj 386 dW), (dW, dictOf esW nW), (dA, oA), (dK, oK0), (x, listOf #[.int 3 t3] nx)].map (·.1)
          · have hl := listed BFN.2 hLS hq hm
            simp only [List.mem_cons, List.not_mem_nil, or_false] at hl
            rcases hl with rfl | rfl | rfl | rfl | rfl <;> first | exact absurd rfl nO | exact .inl (by repeat (first | exact .head _ | refine .tail _ ?_))
          · exact .inr ⟨hq, hm⟩
    · by_cases hm : q.1 ∈ [(W, instObj 386 dW), (dW, dictOf esW nW), (dA, oA), (dK, oK0), (x, listOf #[.int 3 t3] nx)].map (·.1)
      · exact hlt q (listed BFN.2 hLS hq hm)
      · have z := hg _ _ (BFN.2 q hq).1 hm
        refine ⟨fun e => ?_, fun e => ?_, fun e => ?_⟩
        · have z2 := (N9 (G, _) (.head _)).2.2
          rw [e] at z; rw [z] at z2; cases z2
        · have z2 := (N9 (dG, _) (.tail _ (.head _))).2.2
          rw [e] at z; rw [z] at z2; cases z2
        · have z2 := (N9 (HL, _) (.tail _ (.tail _ (.head _)))).2.2
          rw [e] at z; rw [z] at z2; cases z2
  k_steps
  unfold Held
  refine (highs_ok (List.Mem.tail _ (.tail _ (.tail _ (.tail _ (.head _))))) (.head _) (.tail _ (.head _)) gB gR) ⟨Nat.le_of_ble_eq_true rfl, rfl, Nat.le_of_ble_eq_true rfl⟩ (by assumption) (by assumption) (by assumption) (by assumption) rfl rfl (by assumption) (fun v h9 tk9 hv F9 N9 => ?_)
  subst hv
  k_sweep
  k_steps
  unfold Held
  refine (kind_in (List.Mem.head _) (.tail _ (.head _)) gK (.tail _ (.tail _ (.tail _ (.head _)))) hKn loK) ⟨Nat.le_of_ble_eq_true rfl, rfl, Nat.le_of_ble_eq_true rfl⟩ (by assumption) (by assumption) (by assumption) (by assumption) rfl rfl (by assumption) (fun v h9 tk9 hv F9 N9 => ?_)
  obtain ⟨t9, rfl⟩ := hv
  k_sweep
  k_steps
  unfold Held
  refine grid_K (by assumption) (by assumption) (by assumption) (by assumption) (by assumption) (.tail _ (.tail _ (.tail _ (.tail _ (.head _))))) (fun h8 tk8 G dG HL esG nG cG th tgb F8 N8 l8 e1 e2 => ?_)
  have n5 : ¬ @Eq Nat dA G := (l8 (dA, oA) (.tail _ (.tail _ (.head _)))).1
  have n6 : ¬ @Eq Nat dA dG := (l8 (dA, oA) (.tail _ (.tail _ (.head _)))).2.1
  have n7 : ¬ @Eq Nat dA HL := (l8 (dA, oA) (.tail _ (.tail _ (.head _)))).2.2
  k_sweep
  k_steps
  rename News g' L' _ _ => N7
  exact fin _ _ _ _ _ _ _ _ _ _ _ _ (by assumption) N7 l8 e1 e2 (by assumption)
end
section
open PySem.Calls PySem.Spec PyProof.Rows.LCg
theorem w_V_fr_0 : True := by
  k_with_none
  k_with "M k_room" => ((try simp only [depth_mark, depth_under_make, depth_under_kw, depth_in1, depth_deeper]); exact Nat.lt_of_lt_of_le (m := 900) (by decide) (by decide))
  k_with "M exec Raise some none" => (k_here; (with_reducible show wpAny _ _ (exec (Stmt.Raise (some (Expr.Call (Expr.Name ("BasicError" : Str) _) _ [] _)) none _) _) _ _ _); k_dflt (refine' raise_K ?zzF ?zzX ?zzh ?_; (case zzF => k_asm); (case zzX => k_asm); (case zzh => first | rfl | assumption); k_whole))
  k_with "M call ref" => (k_here; k_dflt (refine wpAny_call ?_; refine' code_defC ?zzk1 ?zzk2 ?zzk3 ?zzk4 ?zzk5 ?zzkA ?zzkF ?zzkK ?zzk6 ?zzk7 ?zzk8 ?zzk9 ?zzkB ?zzkD ?_ ?zzc2 ?zzc3 ?zzc4; (case zzkA => exact Around.frames_deeper (Below.stack (by assumption))); (case zzkF => exact rfl); (case zzkK => exact rfl); (case zzk1 => k_asm); (case zzk2 => k_asm); (case zzk3 => k_asm); (case zzk4 => k_asm); (case zzk5 => k_asm); (case zzk6 => k_is); (case zzk7 => k_is); (case zzk8 => k_room); (case zzk9 => first | exact BindsTo.of_eq rfl | exact binds_K (by k_in) rfl (by k_is) rfl rfl rfl | fail "k_enter: no rule for these arguments"); (case zzkB => exact rfl); (case zzkD => decide +kernel); (case zzc2 => exact rfl); (case zzc3 => exact rfl); (case zzc4 => exact rfl); k_whole; intro g'w L'w h'w tk'w cells'w FG'w F'w N'w Y'w B'w X'w T'w l1'w; (try k_lt l1'w); k_cells Y'w; (try simp only [List.cons_append, List.nil_append] at N'w); (try dsimp only); (try k_lift B'w); (try k_fold)))
  k_with "M call ref" => (k_here; k_dflt (refine wpAny_call ?_; refine' code_def ?zzk1 ?zzk2 ?zzk3 ?zzk4 ?zzk5 ?zzkA ?zzkF ?zzkK ?zzk6 ?zzk7 ?zzk8 ?zzk9 ?zzkB ?_ ?zzc2 ?zzc3 ?zzc4 ?zzc5; (case zzkA => exact Around.frames_deeper (Below.stack (by assumption))); (case zzkF => exact rfl); (case zzkK => exact rfl); (case zzk1 => k_asm); (case zzk2 => k_asm); (case zzk3 => k_asm); (case zzk4 => k_asm); (case zzk5 => k_asm); (case zzk6 => k_is); (case zzk7 => k_is); (case zzk8 => k_room); (case zzk9 => first | exact BindsTo.of_eq rfl | exact binds_K (by k_in) rfl (by k_is) rfl rfl rfl | fail "k_enter: no rule for these arguments"); (case zzc5 => decide); (case zzkB => exact locs rfl); (case zzc2 => exact rfl); (case zzc3 => exact rfl); (case zzc4 => exact rfl); k_whole; intro g'w L'w h'w FG'w F'w N'w B'w X'w T'w; (try dsimp only); (try k_lift B'w); (try k_fold)))
  k_with "M call ref" => (k_here; (with_reducible show wpAny _ _ (call (Value.ref 34) _) _ _ _); k_dflt (refine' bx_make ?zzF ?zzX ?zzT ?zzr ?zzl ?_; (case zzF => k_asm); (case zzX => k_asm); (case zzT => k_asm); (case zzr => k_room); (case zzl => first | exact Nat.zero_le _ | exact Nat.le_refl _); k_whole); intro h'w tk'w e'w dx'w mb'w)
  k_with "M RaisesB" => (k_dflt (refine' raisesB_K ?zzF ?zzM ?_; (case zzF => k_asm); (case zzM => assumption); k_whole))
  k_with "M leaving ref" => (k_here; first
  | (refine' leave_newB ?zzk1 ?zzk0 ?zzk2 ?zzk3 ?zzkf ?zzkk ?_; (case zzk0 => assumption); (case zzk1 => assumption); (case zzk2 => assumption); (case zzk3 => k_asm); (case zzkf => rfl); (case zzkk => rfl); k_whole; intro h'w R'w U'w; (try dsimp only at R'w U'w ⊢))
  | (refine' leave_onB ?zzk1 ?zzk2 ?zzk3 ?zzk4 ?zzkf ?_; (case zzk3 => assumption); (case zzk1 => assumption); (case zzk4 => assumption); (case zzk2 => assumption); (case zzkf => rfl); k_whole; intro h'w R'w U'w; (try dsimp only at R'w U'w ⊢)))
  k_with "M getAttr ref" => (k_here; k_dflt (refine' get_own ?zzk1 ?zzk2 ?zzk3 ?zzk4 ?zzk5 ?zzk6 ?zzk7 ?zzk8 ?zzk9 ?_; (case zzk1 => k_asm); (case zzk2 => k_asm); (case zzk3 => k_inst); (case zzk4 => k_is); (case zzk5 => k_is); (case zzk6 => k_is); (case zzk7 => k_is); (case zzk8 => assumption); (case zzk9 => k_handed); k_whole))
  k_with "M eval Name" => (k_here; kc_free; k_dflt (refine' nameX_F ?zzN ?zzc ?zzm ?zzd ?_ ?zza ?zzb; (case zza => rfl); (case zzb => rfl); (case zzN => k_asm); (case zzc => rfl); (case zzm => k_mem); (case zzd => assumption); k_whole))
  k_with "M compareOp In int ref" => (k_here; k_dflt (refine kda_in (knd := PySem.intKind _ _) (by k_asm) (by k_mem) (by k_asm) (by k_asm) (intKind_is _ _ _ _) false (not_three (by omega) (by omega) (by omega)) ?_))
  k_with "M compareOp NotIn int ref" => (k_here; k_dflt (refine kdg_notin (knd := PySem.intKind _ _) (by k_asm) (by k_mem) (by k_asm) (by k_asm) (intKind_is _ _ _ _) false (not_three (by omega) (by omega) (by omega)) ?_))
  k_with "M exec For Name Attribute cons nil" => (k_here; (rename Fr _ _ _ _ => lF'w); (with_unfolding_all refine' For_turns lF'w ?_; k_whole))
  k_with "M pyIter ref" => (k_here; (with_reducible show wpAny _ _ (pyIter (Value.ref _)) (fun it s₂ => TurnsAt _ _ _ _ _ _ _ _ _ it s₂) _ _); (rename Fr _ _ _ _ => lF'w); (rename News _ _ _ _ => lN'w); (with_unfolding_all first
  | refine kta_keys (knd := PySem.intKind _ _) (enc := PyData.int) (xs := [Itm.tok (fun t => Value.int 1 t), Itm.tok (fun t => Value.int 2 t), Itm.tok (fun t => Value.int 3 t)]) (by rfl) lF'w lN'w (by k_mem) (by k_asm) (by k_asm) (fun _ _ h => Value.isInt_shape h) (by rfl) ?_
  | refine kta_keys (knd := PySem.intKind _ _) (enc := PyData.int) (xs := [Itm.tok (fun t => Value.int 1 t), Itm.tok (fun t => Value.int 2 t)]) (by rfl) lF'w lN'w (by k_mem) (by k_asm) (by k_asm) (fun _ _ h => Value.isInt_shape h) (by rfl) ?_
  | refine kta_keys (knd := PySem.intKind _ _) (enc := PyData.int) (xs := [Itm.tok (fun t => Value.int 1 t)]) (by rfl) lF'w lN'w (by k_mem) (by k_asm) (by k_asm) (fun _ _ h => Value.isInt_shape h) (by rfl) ?_
  | refine kta_keys (knd := PySem.intKind _ _) (enc := PyData.int) (xs := []) (by rfl) lF'w lN'w (by k_mem) (by k_asm) (by k_asm) (fun _ _ h => Value.isInt_shape h) (by rfl) ?_); clear lF'w lN'w; intro i'w l1'w; (try k_lt l1'w))
  k_with "M And" => (k_here; (exact ⟨by first | rfl | exact decide_eq_false (by omega), _, rfl⟩))
  k_with "M exec For Tuple Call cons nil" => (k_here; (rename Fr _ _ _ _ => lF'w); (with_unfolding_all refine' For_turns lF'w ?_; k_whole))
  k_with "M kts_caught" => first | exact PutAt.same (by assumption) | assumption | (refine Eq.trans (PutAt.other (by assumption) _ (by decide)) ?_; k_extra "M kts_caught")
  k_with "M getAttr ref" => (k_here; k_dflt (refine' get_own ?zzk1 ?zzk2 ?zzk3 ?zzk4 ?zzk5 ?zzk6 ?zzk7 ?zzk8 ?zzk9 ?_; (case zzk1 => k_asm); (case zzk2 => k_asm); (case zzk3 => k_inst); (case zzk4 => k_is); (case zzk5 => k_is); (case zzk6 => k_is); (case zzk7 => k_is); (case zzk8 => kts_caught); (case zzk9 => k_handed); k_whole))
  k_with "M setAttr ref" => (k_here; k_dflt (refine' set_abs ?zzk1 ?zzk2 ?zzk3 ?zzk4 ?zzk5 ?zzk6 ?zzk7 ?zzk8 ?zzk9 ?zzk10 ?zzk12 ?zzk13 ?_; (case zzk1 => k_asm); (case zzk2 => k_asm); (case zzk3 => k_asm); (case zzk4 => k_inst); (case zzk5 => exact rfl); (case zzk6 => k_is); (case zzk7 => k_is); (case zzk8 => k_is); (case zzk9 => k_is); (case zzk10 => kts_caught); (case zzk12 => k_updF); (case zzk13 => assumption); k_whole); intro h'w es'w n'w F'w N'w P'w z'w; (try dsimp only at N'w))
  k_with "M eval Name" => (k_here; k_dflt (refine' nameX_C ?zzN ?zzc ?zzm ?zzd ?_ ?zza ?zzb; (case zza => rfl); (case zzb => rfl); (case zzN => k_asm); (case zzc => rfl); (case zzm => k_mem); (case zzd => assumption); k_whole))
  k_with "M eval Name" => (k_here; k_dflt (refine' nameX_L ?zzF ?zzv ?_ ?zza ?zzb; (case zza => first | rfl | assumption); (case zzb => rfl); (case zzF => k_asm); (case zzv => first | rfl | (with_unfolding_all assumption)); k_whole))
  k_with "M getMethod ref" => (k_here; (with_reducible show wpAny _ _ (getMethod (Value.ref _) (Str.ofString "get") _) _ _ _); k_dflt (refine kdg_method (knd := PySem.intKind _ _) (by k_asm) (by k_mem) (by k_asm) ?_))
  k_with "M setItem ref int" => (k_here; k_dflt (refine' kda_set (knd := PySem.intKind _ _) ?zzF ?zzN ?zzU ?zzd (intKind_is _ _ _ _) ?zzz ?_; (case zzF => k_asm); (case zzN => k_asm); (case zzU => k_updF); (case zzd => assumption); (case zzz => exact Nat.le_trans (by assumption) (by rw [sizeLine_eq]; decide))); intro h'w o'w F'w N'w hd'w; (try dsimp only at N'w))
  k_with "M k_ne" => ((try dsimp only); first | assumption | (refine Ne.symm ?_; assumption))
  k_with "M call ref" => (k_here; (with_reducible show wpAny _ _ (call (Value.ref 288) _) _ _ _); k_dflt (first
  | (refine' open_1 ?zzB ?zzF ?zzX ?zzT ?zzhf ?zzhke ?zzN ?zzmW ?zzmdW ?zzUO ?zzUF ?zzmF ?zzgO ?zzgF ?zzhO ?zzloO ?zzhF ?zzloF ?zzndOW ?zzndOdW ?zzndOdF ?zzndFW ?zzndFdW ?_; (case zzB => assumption); (case zzF => k_asm); (case zzX => k_asm); (case zzT => k_asm); (case zzhf => rfl); (case zzhke => rfl); (case zzN => k_asm); (case zzmW => k_mem); (case zzmdW => k_mem); (case zzgO => first | rfl | assumption); (case zzgF => first | rfl | assumption); (case zzUO => k_updF); (case zzUF => (intro o9; k_updF)); (case zzmF => k_mem); (case zzhO => assumption); (case zzloO => assumption); (case zzhF => assumption); (case zzloF => assumption); (case zzndOW => k_ne); (case zzndOdW => k_ne); (case zzndOdF => k_ne); (case zzndFW => k_ne); (case zzndFdW => k_ne); k_whole; intro h'w tk'w d9'w o9'w oO'w oF'w tf'w t1'w t2'w t3'w t4'w t5'w t6'w F'w N'w ne'w lo'w a1'w a2'w a3'w; have nq'w := ne'w; (try dsimp only at N'w); (try simp only [List.forall_mem_cons, List.forall_mem_nil, and_true] at ne'w))
  | (refine' open_2 ?zzB ?zzF ?zzX ?zzT ?zzhf ?zzhke ?zzN ?zzmW ?zzmdW ?zzUO ?zzmF ?zzm1 ?zzgO ?zzgF ?zzhO ?zzloO ?zzhF ?zzloF ?zzh1 ?zzlo1 ?zzndOW ?zzndOdW ?zzndOdF ?zzndOd1 ?_; (case zzB => assumption); (case zzF => k_asm); (case zzX => k_asm); (case zzT => k_asm); (case zzhf => rfl); (case zzhke => rfl); (case zzN => k_asm); (case zzmW => k_mem); (case zzmdW => k_mem); (case zzgO => first | rfl | assumption); (case zzgF => first | rfl | assumption); (case zzUO => k_updF); (case zzmF => k_mem); (case zzhO => assumption); (case zzloO => assumption); (case zzhF => assumption); (case zzloF => assumption); (case zzm1 => k_mem); (case zzh1 => assumption); (case zzlo1 => assumption); (case zzndOW => k_ne); (case zzndOdW => k_ne); (case zzndOdF => k_ne); (case zzndOd1 => k_ne); k_whole; intro h'w tk'w d9'w o9'w oO'w t1'w t2'w t3'w t4'w t5'w t6'w F'w N'w ne'w lo'w a1'w a2'w; have nq'w := ne'w; (try dsimp only at N'w); (try simp only [List.forall_mem_cons, List.forall_mem_nil, and_true] at ne'w))
  | (refine' open_3 ?zzB ?zzF ?zzX ?zzT ?zzhf ?zzhke ?zzN ?zzmW ?zzmdW ?zzUO ?zzUF ?zzmF ?zzm1 ?zzm2 ?zzgO ?zzgF ?zzhO ?zzloO ?zzhF ?zzloF ?zzh1 ?zzlo1 ?zzh2 ?zzlo2 ?zzndOW ?zzndOdW ?zzndOdF ?zzndOd1 ?zzndOd2 ?zzndFW ?zzndFdW ?zzndFd1 ?zzndFd2 ?_; (case zzB => assumption); (case zzF => k_asm); (case zzX => k_asm); (case zzT => k_asm); (case zzhf => rfl); (case zzhke => rfl); (case zzN => k_asm); (case zzmW => k_mem); (case zzmdW => k_mem); (case zzgO => first | rfl | assumption); (case zzgF => first | rfl | assumption); (case zzUO => k_updF); (case zzUF => (intro o9; k_updF)); (case zzmF => k_mem); (case zzhO => assumption); (case zzloO => assumption); (case zzhF => assumption); (case zzloF => assumption); (case zzm1 => k_mem); (case zzh1 => assumption); (case zzlo1 => assumption); (case zzm2 => k_mem); (case zzh2 => assumption); (case zzlo2 => assumption); (case zzndOW => k_ne); (case zzndOdW => k_ne); (case zzndOdF => k_ne); (case zzndOd1 => k_ne); (case zzndOd2 => k_ne); (case zzndFW => k_ne); (case zzndFdW => k_ne); (case zzndFd1 => k_ne); (case zzndFd2 => k_ne); k_whole; intro h'w tk'w d9'w o9'w oO'w oF'w tf'w t1'w t2'w t3'w t4'w t5'w t6'w buf'w F'w N'w ne'w lo'w a1'w a2'w a3'w; have nq'w := ne'w; (try dsimp only at N'w); (try simp only [List.forall_mem_cons, List.forall_mem_nil, and_true] at ne'w))))
  k_with "M pyIter ref" => ((with_reducible show wpAny _ _ (pyIter (Value.ref _)) (fun it s₂ => LoopAtV _ _ _ _ _ _ _ _ _ it s₂) _ _); l_hasStore; k_listUnr)
  k_with "M call ref" => (k_here; (with_reducible show wpAny _ _ (call (Value.ref 269) _) _ _ _); k_dflt (refine' dim_K ?zzB ?zzF ?zzX ?zzT rfl rfl ?zzN ?zzmW ?zzmdW ?zzUA ?zzmK ?zzmx ?zzgA ?zzgK ?zzgB ?zzgR ?zzhA ?zzloA ?zzhK ?zzloK ?zzn1 ?zzn2 ?zzn3 ?zzn4 ?_; (case zzB => assumption); (case zzF => k_asm); (case zzX => k_asm); (case zzT => k_asm); (case zzN => k_asm); (case zzmW => k_mem); (case zzmdW => k_mem); (case zzgA => assumption); (case zzgK => assumption); (case zzgB => assumption); (case zzgR => assumption); (case zzUA => k_updF); (case zzmK => k_mem); (case zzmx => k_mem); (case zzhA => assumption); (case zzloA => assumption); (case zzhK => assumption); (case zzloK => assumption); (case zzn1 => k_ne); (case zzn2 => k_ne); (case zzn3 => k_ne); (case zzn4 => k_ne); k_whole); intro h'w tk'w G'w dG'w HL'w esG'w nG'w cG'w th'w tgb'w oA'w F'w N'w ne'w e1'w e2'w a1'w; (try dsimp only at N'w))
  k_with "M execs cons" => ((with_reducible show wpAny _ _ (execs (Stmt.Assign [Expr.Name ("works" : Str) _] _ _ :: _) _) _ _ _); refine held ?_)
  trivial
theorem ne_of_all {big : List (Addr × Obj)} {a d : Nat} {o : Obj} (h : ∀ q ∈ big, ¬ @Eq Nat q.1 d) (m : (a, o) ∈ big) : ¬ @Eq Nat a d := h _ m
theorem ne_of_all' {big : List (Addr × Obj)} {a d : Nat} {o : Obj} (h : ∀ q ∈ big, ¬ @Eq Nat q.1 d) (m : (a, o) ∈ big) : ¬ @Eq Nat d a := fun e => h _ m e.symm
theorem w_V_fr_1 : True := by
  k_with "M k_ne" => ((try dsimp only); first | assumption | (refine Ne.symm ?_; assumption) | exact Nat.ne_of_lt (by assumption) | exact Nat.ne_of_gt (by assumption) | exact ne_of_all (by assumption) (by k_mem) | exact ne_of_all' (by assumption) (by k_mem) | (refine neN ?_; omega))
  k_with "M k_mem" => assumption
  k_with "M k_mem" => first | exact List.Mem.head _ | (refine' List.Mem.tail _ ?_; k_extra "M k_mem")
  trivial

def lawRest0 : Option (List Stmt) := match (PySem.Challenge.pw_rr0003_01.main.body[(64 : Nat)]?) with
  | some (.FunctionDef _ _ ss _ _ _ _ _ _ _) => some (ss.drop 1)
  | _ => none

theorem law_front {w : World} {sc : Scope} {body : List Stmt} {h₀ : Heap} {L a : Addr} {cN cW cK W dW C dC K dO dF dA dK PL SK CL : Addr} {m mg mb : Str → Option Value} {p : Program} {loose : List Str} {mean : ExcName → Option Value} {s : Shared} {Q : Flow → Shared → Prop} {E : Value → Shared → Prop}
  {oN oW oKc oK oO oF oA oK0 : Obj} {v0 : Option Value} {esW esC : List DictEntry} {nW nC nSK nCL cP : Nat} {tk0 tb tr : Tok} {vs : List Value} {ns : List Int} {rest : List (Addr × Obj)}
  (hbody : lawRest0 = some body) (hsc : lawScope = some sc)
  (B : Below callerA h₀ [] h₀) (F : Fr h₀ L s.heap m) (X : (hd.heap_1_39 w.params).In h₀) (T : Top p loose mean mg mb h₀) (hP : CodeHd h₀ 434 432) (hP1 : CodeHd h₀ 417 413) (hP2 : CodeHd h₀ 424 420)
  (N : News h₀ L s.heap ((dO, oO) :: (dF, oF) :: (dA, oA) :: (W, instObj 386 dW) :: (dW, dictOf esW nW) :: (dK, oK0) :: (cW, oW) :: rest))
  (hmC : m "control" = some (.ref C)) (hmS : m "sack" = some (.ref SK)) (hi : IntsAre vs ns) (hlen : ns.length ≤ 63)
  (mSK : (SK, listOf #[.ref CL, .int 0 tk0] nSK) ∈ rest) (mCL : (CL, listOf vs.toArray nCL) ∈ rest) (m413 : (413, tabObj #[]) ∈ rest) (m420 : (420, tabObj #[]) ∈ rest) (m432 : (432, tabObj #[]) ∈ rest) (mcN : (cN, oN) ∈ rest) (mcK : (cK, oKc) ∈ rest) (mC : (C, instObj 138 dC) ∈ rest) (mdC : (dC, dictOf esC nC) ∈ rest) (mPL : (PL, listOf #[] cP) ∈ rest) (mK : (K, oK) ∈ rest)
  (hoW : oW.data = .cell (some (.ref W))) (hoN : oN.data = .cell v0) (hoK : oKc.data = .cell (some (.ref K)))
  (hK : oK.IsDictOf (PySem.intKind RW.row.prog w) []) (loK : (K == sysModules) = false)
  (hw : WF dO dF dA esW) (hc : CF PL esC) (gK : getL "kinds" esW = some (some (.ref dK))) (gB : getL "base" esW = some (some (.int 0 tb))) (gR : getL "room" esW = some (some (.int 2000 tr)))
  (hA : oA.IsDictOf (PySem.strKind RW.row.prog w) []) (loA : (dA == sysModules) = false) (hKn : oK0.IsDictOf (PySem.strKind RW.row.prog w) []) (loKn : (dK == sysModules) = false) (hF : oF.IsDictOf (PySem.strKind RW.row.prog w) []) (loF : (dF == sysModules) = false) (hO : oO.IsDictOf (PySem.intKind RW.row.prog w) []) (loO : (dO == sysModules) = false)
  (hoff : OwnOff rest [dO, dF, dA]) (hcw : @LT.lt Nat _ cW dW) (o1 : @LT.lt Nat _ dW W) (o2 : @LT.lt Nat _ W dA) (o3 : @LT.lt Nat _ dA dK) (o4 : @LT.lt Nat _ dK dF) (o5 : @LT.lt Nat _ dF dO)
  (hpw : ([413, 420, 432, cK, cN, cW, CL, SK, dW, W, dA, dF, dO, dC, C, PL, K] : List Nat).Pairwise (· < ·))
  (hE : PassesOwn (model RW.row.prog w) (callerA.deeper (envX "law" sc L a (.ref 434) [("world", cW), ("number", cN), ("known", cK)])) (envX "law" sc L a (.ref 434) [("world", cW), ("number", cN), ("known", cK)]) E)
  (hQ : ∀ h' tk m', Fr h₀ L h' m' → GrownAt 413 h' → GrownAt 420 h' → GrownAt 432 h' → Q (.ret (.bool true)) { s with heap := h', toks := tk }) :
  wpAny (model RW.row.prog w) (callerA.deeper (envX "law" sc L a (.ref 434) [("world", cW), ("number", cN), ("known", cK)])) (execs body (envX "law" sc L a (.ref 434) [("world", cW), ("number", cN), ("known", cK)])) Q E s := by
  obtain ⟨gO, gF, gA, _, _, _, _, _, _, _⟩ := id hw
  revert X; k_fill; intro X
  rw [show lawRest0 = some _ from rfl] at hbody
  rw [show lawScope = some _ from rfl] at hsc
  cases hbody
  cases hsc
  k_steps
  unfold Held
  refine' law_entry2 (dC := dC) (PL := PL) ?hbody ?hsc ?B ?F ?X ?T ?hP ?hP1 ?hP2 ?N ?hmC ?hmS ?hi ?hlen ?hoW ?hoN ?hoK ?hK ?loK ?hw ?hc ?hO ?loO ?h1 ?lo1 ?h2 ?lo2 ?h3 ?lo3 ?hF ?loF ?hA ?loA ?gHi ?gBs ?e1 ?i1 ?e2 ?i2 ?e3 ?i3 ?e4 ?i4 ?mSK ?mCL ?m413 ?m420 ?m432 ?mcN ?mcK ?mC ?mdC ?mPL ?mK ?hpw ?hE ?hQ
  case hbody => exact rfl
  case hsc => exact rfl
  case B => assumption
  case F => k_asm
  case X => k_asm
  case T => k_asm
  case N => k_asm
  case mSK => exact mSK
  case mCL => exact mCL
  case mcN => exact mcN
  case mcK => exact mcK
  case mC => exact mC
  case mdC => exact mdC
  case mPL => exact mPL
  case mK => exact mK
  case hP => assumption
  case hP1 => assumption
  case hP2 => assumption
  case hmC => exact hmC
  case hmS => exact hmS
  case hi => exact hi
  case hlen => exact hlen
  case hoW => exact hoW
  case hoN => exact hoN
  case hoK => exact hoK
  case hK => assumption
  case loK => assumption
  case hw => exact hw
  case hc => exact hc
  case hO => assumption
  case loO => assumption
  case h1 => exact ⟨_, _, _, _, _, _, by assumption⟩
  case lo1 => assumption
  case h2 => exact ⟨_, _, _, _, _, _, by assumption⟩
  case lo2 => assumption
  case h3 => exact ⟨_, _, _, _, _, _, by assumption⟩
  case lo3 => assumption
  case hF => assumption
  case loF => assumption
  case hA => assumption
  case loA => assumption
  case gHi => assumption
  case gBs => assumption
  case e1 => assumption
  case i1 => (intro x hx; simp only [List.mem_cons, List.not_mem_nil, or_false] at hx; rcases hx with rfl | rfl | rfl | rfl | rfl | rfl | rfl | rfl | rfl | rfl | rfl | rfl | rfl <;> exact List.mem_map.mpr ⟨(_, _), (by k_mem), rfl⟩)
  case e2 => assumption
  case i2 => (intro x hx; simp only [List.mem_cons, List.not_mem_nil, or_false] at hx; rcases hx with rfl | rfl | rfl | rfl | rfl | rfl | rfl | rfl | rfl | rfl | rfl | rfl | rfl <;> exact List.mem_map.mpr ⟨(_, _), (by k_mem), rfl⟩)
  case e3 => assumption
  case i3 => (intro x hx; simp only [List.mem_cons, List.not_mem_nil, or_false] at hx; rcases hx with rfl | rfl | rfl | rfl | rfl | rfl | rfl | rfl | rfl | rfl | rfl | rfl | rfl <;> exact List.mem_map.mpr ⟨(_, _), (by k_mem), rfl⟩)
  case e4 => assumption
  case i4 => (intro x hx; simp only [List.mem_cons, List.not_mem_nil, or_false] at hx; rcases hx with rfl | rfl | rfl | rfl | rfl | rfl | rfl | rfl | rfl | rfl | rfl | rfl | rfl <;> exact List.mem_map.mpr ⟨(_, _), (by k_mem), rfl⟩)
  case m413 => exact m413
  case m420 => exact m420
  case m432 => exact m432
  case hpw => exact hpw
  case hE => exact hE
  case hQ => exact hQ
end
section
theorem w_V_fs : True := by
  k_with_none
  trivial
open PySem.Calls PySem.Spec PyProof.Rows.LCg

theorem law_first {w : World} {sc : Scope} {body : List Stmt} {h₀ : Heap} {L a : Addr} {cN cW cK W dW C dC K dO dF dA dK PL SK CL : Addr} {m mg mb : Str → Option Value} {p : Program} {loose : List Str} {mean : ExcName → Option Value} {s : Shared} {Q : Flow → Shared → Prop} {E : Value → Shared → Prop}
  {oN oW oKc oK oO oF oA oK0 : Obj} {v0 : Option Value} {esW esC : List DictEntry} {nW nC nSK nCL cP : Nat} {tk0 tb tr : Tok} {vs : List Value} {ns : List Int} {x0 : Addr × Obj}
  (hbody : lawRest0 = some body) (hsc : lawScope = some sc)
  (B : Below callerA h₀ [] h₀) (F : Fr h₀ L s.heap m) (X : (hd.heap_1_39 w.params).In h₀) (T : Top p loose mean mg mb h₀) (hP : CodeHd h₀ 434 432) (hP1 : CodeHd h₀ 417 413) (hP2 : CodeHd h₀ 424 420)
  (N : News h₀ L s.heap [x0, (K, oK), (PL, listOf #[] cP), (C, instObj 138 dC), (dC, dictOf esC nC), (W, instObj 386 dW), (dW, dictOf esW nW), (dO, oO), (dF, oF), (dK, oK0), (dA, oA), (SK, listOf #[.ref CL, .int 0 tk0] nSK), (CL, listOf vs.toArray nCL), (cW, oW), (cN, oN), (cK, oKc), (420, tabObj #[]), (413, tabObj #[]), (432, tabObj #[])])
  (hmC : m "control" = some (.ref C)) (hmS : m "sack" = some (.ref SK)) (hi : IntsAre vs ns) (hlen : ns.length ≤ 63)
  (hoW : oW.data = .cell (some (.ref W))) (hoN : oN.data = .cell v0) (hoK : oKc.data = .cell (some (.ref K)))
  (hK : oK.IsDictOf (PySem.intKind RW.row.prog w) []) (loK : (K == sysModules) = false)
  (hw : WF dO dF dA esW) (hc : CF PL esC) (gK : getL "kinds" esW = some (some (.ref dK))) (gB : getL "base" esW = some (some (.int 0 tb))) (gR : getL "room" esW = some (some (.int 2000 tr)))
  (hA : oA.IsDictOf (PySem.strKind RW.row.prog w) []) (loA : (dA == sysModules) = false) (hKn : oK0.IsDictOf (PySem.strKind RW.row.prog w) []) (loKn : (dK == sysModules) = false) (hF : oF.IsDictOf (PySem.strKind RW.row.prog w) []) (loF : (dF == sysModules) = false) (hO : oO.IsDictOf (PySem.intKind RW.row.prog w) []) (loO : (dO == sysModules) = false)
  (r2 : @LT.lt Nat _ 432 cK) (r3 : @LT.lt Nat _ cK cN) (r4 : @LT.lt Nat _ cN cW) (r5 : @LT.lt Nat _ cW CL) (r6 : @LT.lt Nat _ CL SK) (r7 : @LT.lt Nat _ SK dW) (r8 : @LT.lt Nat _ dW W) (r9 : @LT.lt Nat _ W dA) (r11 : @LT.lt Nat _ dF dO) (r12 : @LT.lt Nat _ dO dC) (r13 : @LT.lt Nat _ dC C) (r14 : @LT.lt Nat _ C PL) (r15 : @LT.lt Nat _ PL K) (k1 : @LT.lt Nat _ dA dK) (k2 : @LT.lt Nat _ dK dF)
  (hE : PassesOwn (model RW.row.prog w) (callerA.deeper (envX "law" sc L a (.ref 434) [("world", cW), ("number", cN), ("known", cK)])) (envX "law" sc L a (.ref 434) [("world", cW), ("number", cN), ("known", cK)]) E)
  (hQ : ∀ h' tk m', Fr h₀ L h' m' → GrownAt 413 h' → GrownAt 420 h' → GrownAt 432 h' → Q (.ret (.bool true)) { s with heap := h', toks := tk }) :
  wpAny (model RW.row.prog w) (callerA.deeper (envX "law" sc L a (.ref 434) [("world", cW), ("number", cN), ("known", cK)])) (execs body (envX "law" sc L a (.ref 434) [("world", cW), ("number", cN), ("known", cK)])) Q E s := by
  have hpw : ([413, 420, 432, cK, cN, cW, CL, SK, dW, W, dA, dF, dO, dC, C, PL, K] : List Nat).Pairwise (· < ·) := (pw_cons (Nat.le_of_ble_eq_true rfl) (pw_cons (Nat.le_of_ble_eq_true rfl) (pw_cons r2 (pw_cons r3 (pw_cons r4 (pw_cons r5 (pw_cons r6 (pw_cons r7 (pw_cons r8 (pw_cons r9 (pw_cons (Nat.lt_trans k1 k2) (pw_cons r11 (pw_cons r12 (pw_cons r13 (pw_cons r14 (pw_cons r15 pw_one))))))))))))))))
  have pw : ∀ (i j : Nat) (hi : i < 17) (hj : j < 17), i < j → (([413, 420, 432, cK, cN, cW, CL, SK, dW, W, dA, dF, dO, dC, C, PL, K] : List Nat)[i]'hi) < (([413, 420, 432, cK, cN, cW, CL, SK, dW, W, dA, dF, dO, dC, C, PL, K] : List Nat)[j]'hj) := List.pairwise_iff_getElem.mp hpw
  have hoff : OwnOff [(SK, listOf #[.ref CL, .int 0 tk0] nSK), (CL, listOf vs.toArray nCL), (413, tabObj #[]), (420, tabObj #[]), (432, tabObj #[]), (cN, oN), (cK, oKc), (C, instObj 138 dC), (dC, dictOf esC nC), (PL, listOf #[] cP), (K, oK)] [dO, dF, dA] := List.forall_mem_cons.mpr ⟨(List.forall_mem_cons.mpr ⟨(Nat.ne_of_lt (pw 7 12 (Nat.le_of_ble_eq_true rfl) (Nat.le_of_ble_eq_true rfl) (Nat.le_of_ble_eq_true rfl))), List.forall_mem_cons.mpr ⟨(Nat.ne_of_lt (pw 7 11 (Nat.le_of_ble_eq_true rfl) (Nat.le_of_ble_eq_true rfl) (Nat.le_of_ble_eq_true rfl))), List.forall_mem_cons.mpr ⟨(Nat.ne_of_lt (pw 7 10 (Nat.le_of_ble_eq_true rfl) (Nat.le_of_ble_eq_true rfl) (Nat.le_of_ble_eq_true rfl))), List.forall_mem_nil _⟩⟩⟩), List.forall_mem_cons.mpr ⟨(List.forall_mem_cons.mpr ⟨(Nat.ne_of_lt (pw 6 12 (Nat.le_of_ble_eq_true rfl) (Nat.le_of_ble_eq_true rfl) (Nat.le_of_ble_eq_true rfl))), List.forall_mem_cons.mpr ⟨(Nat.ne_of_lt (pw 6 11 (Nat.le_of_ble_eq_true rfl) (Nat.le_of_ble_eq_true rfl) (Nat.le_of_ble_eq_true rfl))), List.forall_mem_cons.mpr ⟨(Nat.ne_of_lt (pw 6 10 (Nat.le_of_ble_eq_true rfl) (Nat.le_of_ble_eq_true rfl) (Nat.le_of_ble_eq_true rfl))), List.forall_mem_nil _⟩⟩⟩), List.forall_mem_cons.mpr ⟨(List.forall_mem_cons.mpr ⟨(Nat.ne_of_lt (pw 0 12 (Nat.le_of_ble_eq_true rfl) (Nat.le_of_ble_eq_true rfl) (Nat.le_of_ble_eq_true rfl))), List.forall_mem_cons.mpr ⟨(Nat.ne_of_lt (pw 0 11 (Nat.le_of_ble_eq_true rfl) (Nat.le_of_ble_eq_true rfl) (Nat.le_of_ble_eq_true rfl))), List.forall_mem_cons.mpr ⟨(Nat.ne_of_lt (pw 0 10 (Nat.le_of_ble_eq_true rfl) (Nat.le_of_ble_eq_true rfl) (Nat.le_of_ble_eq_true rfl))), List.forall_mem_nil _⟩⟩⟩), List.forall_mem_cons.mpr ⟨(List.forall_mem_cons.mpr ⟨(Nat.ne_of_lt (pw 1 12 (Nat.le_of_ble_eq_true rfl) (Nat.le_of_ble_eq_true rfl) (Nat.le_of_ble_eq_true rfl))), List.forall_mem_cons.mpr ⟨(Nat.ne_of_lt (pw 1 11 (Nat.le_of_ble_eq_true rfl) (Nat.le_of_ble_eq_true rfl) (Nat.le_of_ble_eq_true rfl))), List.forall_mem_cons.mpr ⟨(Nat.ne_of_lt (pw 1 10 (Nat.le_of_ble_eq_true rfl) (Nat.le_of_ble_eq_true rfl) (Nat.le_of_ble_eq_true rfl))), List.forall_mem_nil _⟩⟩⟩), List.forall_mem_cons.mpr ⟨(List.forall_mem_cons.mpr ⟨(Nat.ne_of_lt (pw 2 12 (Nat.le_of_ble_eq_true rfl) (Nat.le_of_ble_eq_true rfl) (Nat.le_of_ble_eq_true rfl))), List.forall_mem_cons.mpr ⟨(Nat.ne_of_lt (pw 2 11 (Nat.le_of_ble_eq_true rfl) (Nat.le_of_ble_eq_true rfl) (Nat.le_of_ble_eq_true rfl))), List.forall_mem_cons.mpr ⟨(Nat.ne_of_lt (pw 2 10 (Nat.le_of_ble_eq_true rfl) (Nat.le_of_ble_eq_true rfl) (Nat.le_of_ble_eq_true rfl))), List.forall_mem_nil _⟩⟩⟩), List.forall_mem_cons.mpr ⟨(List.forall_mem_cons.mpr ⟨(Nat.ne_of_lt (pw 4 12 (Nat.le_of_ble_eq_true rfl) (Nat.le_of_ble_eq_true rfl) (Nat.le_of_ble_eq_true rfl))), List.forall_mem_cons.mpr ⟨(Nat.ne_of_lt (pw 4 11 (Nat.le_of_ble_eq_true rfl) (Nat.le_of_ble_eq_true rfl) (Nat.le_of_ble_eq_true rfl))), List.forall_mem_cons.mpr ⟨(Nat.ne_of_lt (pw 4 10 (Nat.le_of_ble_eq_true rfl) (Nat.le_of_ble_eq_true rfl) (Nat.le_of_ble_eq_true rfl))), List.forall_mem_nil _⟩⟩⟩), List.forall_mem_cons.mpr ⟨(List.forall_mem_cons.mpr ⟨(Nat.ne_of_lt (pw 3 12 (Nat.le_of_ble_eq_true rfl) (Nat.le_of_ble_eq_true rfl) (Nat.le_of_ble_eq_true rfl))), List.forall_mem_cons.mpr ⟨(Nat.ne_of_lt (pw 3 11 (Nat.le_of_ble_eq_true rfl) (Nat.le_of_ble_eq_true rfl) (Nat.le_of_ble_eq_true rfl))), List.forall_mem_cons.mpr ⟨(Nat.ne_of_lt (pw 3 10 (Nat.le_of_ble_eq_true rfl) (Nat.le_of_ble_eq_true rfl) (Nat.le_of_ble_eq_true rfl))), List.forall_mem_nil _⟩⟩⟩), List.forall_mem_cons.mpr ⟨(List.forall_mem_cons.mpr ⟨(Nat.ne_of_gt (pw 12 14 (Nat.le_of_ble_eq_true rfl) (Nat.le_of_ble_eq_true rfl) (Nat.le_of_ble_eq_true rfl))), List.forall_mem_cons.mpr ⟨(Nat.ne_of_gt (pw 11 14 (Nat.le_of_ble_eq_true rfl) (Nat.le_of_ble_eq_true rfl) (Nat.le_of_ble_eq_true rfl))), List.forall_mem_cons.mpr ⟨(Nat.ne_of_gt (pw 10 14 (Nat.le_of_ble_eq_true rfl) (Nat.le_of_ble_eq_true rfl) (Nat.le_of_ble_eq_true rfl))), List.forall_mem_nil _⟩⟩⟩), List.forall_mem_cons.mpr ⟨(List.forall_mem_cons.mpr ⟨(Nat.ne_of_gt (pw 12 13 (Nat.le_of_ble_eq_true rfl) (Nat.le_of_ble_eq_true rfl) (Nat.le_of_ble_eq_true rfl))), List.forall_mem_cons.mpr ⟨(Nat.ne_of_gt (pw 11 13 (Nat.le_of_ble_eq_true rfl) (Nat.le_of_ble_eq_true rfl) (Nat.le_of_ble_eq_true rfl))), List.forall_mem_cons.mpr ⟨(Nat.ne_of_gt (pw 10 13 (Nat.le_of_ble_eq_true rfl) (Nat.le_of_ble_eq_true rfl) (Nat.le_of_ble_eq_true rfl))), List.forall_mem_nil _⟩⟩⟩), List.forall_mem_cons.mpr ⟨(List.forall_mem_cons.mpr ⟨(Nat.ne_of_gt (pw 12 15 (Nat.le_of_ble_eq_true rfl) (Nat.le_of_ble_eq_true rfl) (Nat.le_of_ble_eq_true rfl))), List.forall_mem_cons.mpr ⟨(Nat.ne_of_gt (pw 11 15 (Nat.le_of_ble_eq_true rfl) (Nat.le_of_ble_eq_true rfl) (Nat.le_of_ble_eq_true rfl))), List.forall_mem_cons.mpr ⟨(Nat.ne_of_gt (pw 10 15 (Nat.le_of_ble_eq_true rfl) (Nat.le_of_ble_eq_true rfl) (Nat.le_of_ble_eq_true rfl))), List.forall_mem_nil _⟩⟩⟩), List.forall_mem_cons.mpr ⟨(List.forall_mem_cons.mpr ⟨(Nat.ne_of_gt (pw 12 16 (Nat.le_of_ble_eq_true rfl) (Nat.le_of_ble_eq_true rfl) (Nat.le_of_ble_eq_true rfl))), List.forall_mem_cons.mpr ⟨(Nat.ne_of_gt (pw 11 16 (Nat.le_of_ble_eq_true rfl) (Nat.le_of_ble_eq_true rfl) (Nat.le_of_ble_eq_true rfl))), List.forall_mem_cons.mpr ⟨(Nat.ne_of_gt (pw 10 16 (Nat.le_of_ble_eq_true rfl) (Nat.le_of_ble_eq_true rfl) (Nat.le_of_ble_eq_true rfl))), List.forall_mem_nil _⟩⟩⟩), List.forall_mem_nil _⟩⟩⟩⟩⟩⟩⟩⟩⟩⟩⟩
  have N2 := pickN (news := (dO, oO) :: (dF, oF) :: (dA, oA) :: (W, instObj 386 dW) :: (dW, dictOf esW nW) :: (dK, oK0) :: (cW, oW) :: [(SK, listOf #[.ref CL, .int 0 tk0] nSK), (CL, listOf vs.toArray nCL), (413, tabObj #[]), (420, tabObj #[]), (432, tabObj #[]), (cN, oN), (cK, oKc), (C, instObj 138 dC), (dC, dictOf esC nC), (PL, listOf #[] cP), (K, oK)]) N (by
    repeat (refine List.forall_mem_cons.mpr ⟨by k_mem, ?_⟩)
    exact List.forall_mem_nil _)
  exact law_front hbody hsc B F X T hP hP1 hP2 N2 hmC hmS hi hlen (by k_mem) (by k_mem) (by k_mem) (by k_mem) (by k_mem) (by k_mem) (by k_mem) (by k_mem) (by k_mem) (by k_mem) (by k_mem) hoW hoN hoK hK loK hw hc gK gB gR hA loA hKn loKn hF loF hO loO hoff (pw 5 8 (Nat.le_of_ble_eq_true rfl) (Nat.le_of_ble_eq_true rfl) (Nat.le_of_ble_eq_true rfl)) (pw 8 9 (Nat.le_of_ble_eq_true rfl) (Nat.le_of_ble_eq_true rfl) (Nat.le_of_ble_eq_true rfl)) (pw 9 10 (Nat.le_of_ble_eq_true rfl) (Nat.le_of_ble_eq_true rfl) (Nat.le_of_ble_eq_true rfl)) k1 k2 (pw 11 12 (Nat.le_of_ble_eq_true rfl) (Nat.le_of_ble_eq_true rfl) (Nat.le_of_ble_eq_true rfl)) hpw hE hQ
end

theorem w_main_0 : True := by
  k_with_none
  k_with "M k_room" => ((try simp only [depth_mark, depth_under_make, depth_under_kw, depth_in1, depth_deeper]); exact Nat.lt_of_lt_of_le (m := 900) (by decide) (by decide))
  k_with "M exec Raise some none" => (k_here; (with_reducible show wpAny _ _ (exec (Stmt.Raise (some (Expr.Call (Expr.Name ("BasicError" : Str) _) _ [] _)) none _) _) _ _ _); k_dflt (refine' raise_K ?zzF ?zzX ?zzh ?_; (case zzF => k_asm); (case zzX => k_asm); (case zzh => first | rfl | assumption); k_whole))
  k_with "M call ref" => (k_here; k_dflt (refine wpAny_call ?_; refine' code_defC ?zzk1 ?zzk2 ?zzk3 ?zzk4 ?zzk5 ?zzkA ?zzkF ?zzkK ?zzk6 ?zzk7 ?zzk8 ?zzk9 ?zzkB ?zzkD ?_ ?zzc2 ?zzc3 ?zzc4; (case zzkA => exact Around.frames_deeper (Below.stack (by assumption))); (case zzkF => exact rfl); (case zzkK => exact rfl); (case zzk1 => k_asm); (case zzk2 => k_asm); (case zzk3 => k_asm); (case zzk4 => k_asm); (case zzk5 => k_asm); (case zzk6 => k_is); (case zzk7 => k_is); (case zzk8 => k_room); (case zzk9 => first | exact BindsTo.of_eq rfl | exact binds_K (by k_in) rfl (by k_is) rfl rfl rfl | fail "k_enter: no rule for these arguments"); (case zzkB => exact rfl); (case zzkD => decide +kernel); (case zzc2 => exact rfl); (case zzc3 => exact rfl); (case zzc4 => exact rfl); k_whole; intro g'w L'w h'w tk'w cells'w FG'w F'w N'w Y'w B'w X'w T'w l1'w; (try k_lt l1'w); k_cells Y'w; (try simp only [List.cons_append, List.nil_append] at N'w); (try dsimp only); (try k_lift B'w); (try k_fold)))
  k_with "M call ref" => (k_here; k_dflt (refine wpAny_call ?_; refine' code_def ?zzk1 ?zzk2 ?zzk3 ?zzk4 ?zzk5 ?zzkA ?zzkF ?zzkK ?zzk6 ?zzk7 ?zzk8 ?zzk9 ?zzkB ?_ ?zzc2 ?zzc3 ?zzc4 ?zzc5; (case zzkA => exact Around.frames_deeper (Below.stack (by assumption))); (case zzkF => exact rfl); (case zzkK => exact rfl); (case zzk1 => k_asm); (case zzk2 => k_asm); (case zzk3 => k_asm); (case zzk4 => k_asm); (case zzk5 => k_asm); (case zzk6 => k_is); (case zzk7 => k_is); (case zzk8 => k_room); (case zzk9 => first | exact BindsTo.of_eq rfl | exact binds_K (by k_in) rfl (by k_is) rfl rfl rfl | fail "k_enter: no rule for these arguments"); (case zzc5 => decide); (case zzkB => exact locs rfl); (case zzc2 => exact rfl); (case zzc3 => exact rfl); (case zzc4 => exact rfl); k_whole; intro g'w L'w h'w FG'w F'w N'w B'w X'w T'w; (try dsimp only); (try k_lift B'w); (try k_fold)))
  k_with "M call ref" => (k_here; (with_reducible show wpAny _ _ (call (Value.ref 34) _) _ _ _); k_dflt (refine' bx_make ?zzF ?zzX ?zzT ?zzr ?zzl ?_; (case zzF => k_asm); (case zzX => k_asm); (case zzT => k_asm); (case zzr => k_room); (case zzl => first | exact Nat.zero_le _ | exact Nat.le_refl _); k_whole); intro h'w tk'w e'w dx'w mb'w)
  k_with "M RaisesB" => (k_dflt (refine' raisesB_K ?zzF ?zzM ?_; (case zzF => k_asm); (case zzM => assumption); k_whole))
  k_with "M leaving ref" => (k_here; first
  | (refine' leave_newB ?zzk1 ?zzk0 ?zzk2 ?zzk3 ?zzkf ?zzkk ?_; (case zzk0 => assumption); (case zzk1 => assumption); (case zzk2 => assumption); (case zzk3 => k_asm); (case zzkf => rfl); (case zzkk => rfl); k_whole; intro h'w R'w U'w; (try dsimp only at R'w U'w ⊢))
  | (refine' leave_onB ?zzk1 ?zzk2 ?zzk3 ?zzk4 ?zzkf ?_; (case zzk3 => assumption); (case zzk1 => assumption); (case zzk4 => assumption); (case zzk2 => assumption); (case zzkf => rfl); k_whole; intro h'w R'w U'w; (try dsimp only at R'w U'w ⊢)))
  k_with "M getAttr ref" => (k_here; k_dflt (refine' get_own ?zzk1 ?zzk2 ?zzk3 ?zzk4 ?zzk5 ?zzk6 ?zzk7 ?zzk8 ?zzk9 ?_; (case zzk1 => k_asm); (case zzk2 => k_asm); (case zzk3 => k_inst); (case zzk4 => k_is); (case zzk5 => k_is); (case zzk6 => k_is); (case zzk7 => k_is); (case zzk8 => assumption); (case zzk9 => k_handed); k_whole))
  k_with "M eval Name" => (k_here; kc_free; k_dflt (refine' nameX_F ?zzN ?zzc ?zzm ?zzd ?_ ?zza ?zzb; (case zza => rfl); (case zzb => rfl); (case zzN => k_asm); (case zzc => rfl); (case zzm => k_mem); (case zzd => assumption); k_whole))
  k_with "M compareOp In int ref" => (k_here; k_dflt (refine kda_in (knd := PySem.intKind _ _) (by k_asm) (by k_mem) (by k_asm) (by k_asm) (intKind_is _ _ _ _) false (not_three (by omega) (by omega) (by omega)) ?_))
  k_with "M compareOp NotIn int ref" => (k_here; k_dflt (refine kdg_notin (knd := PySem.intKind _ _) (by k_asm) (by k_mem) (by k_asm) (by k_asm) (intKind_is _ _ _ _) false (not_three (by omega) (by omega) (by omega)) ?_))
  k_with "M exec For Name Attribute cons nil" => (k_here; (rename Fr _ _ _ _ => lF'w); (with_unfolding_all refine' For_turns lF'w ?_; k_whole))
  k_with "M pyIter ref" => (k_here; (with_reducible show wpAny _ _ (pyIter (Value.ref _)) (fun it s₂ => TurnsAt _ _ _ _ _ _ _ _ _ it s₂) _ _); (rename Fr _ _ _ _ => lF'w); (rename News _ _ _ _ => lN'w); (with_unfolding_all first
  | refine kta_keys (knd := PySem.intKind _ _) (enc := PyData.int) (xs := [Itm.tok (fun t => Value.int 1 t), Itm.tok (fun t => Value.int 2 t), Itm.tok (fun t => Value.int 3 t)]) (by rfl) lF'w lN'w (by k_mem) (by k_asm) (by k_asm) (fun _ _ h => Value.isInt_shape h) (by rfl) ?_
  | refine kta_keys (knd := PySem.intKind _ _) (enc := PyData.int) (xs := [Itm.tok (fun t => Value.int 1 t), Itm.tok (fun t => Value.int 2 t)]) (by rfl) lF'w lN'w (by k_mem) (by k_asm) (by k_asm) (fun _ _ h => Value.isInt_shape h) (by rfl) ?_
  | refine kta_keys (knd := PySem.intKind _ _) (enc := PyData.int) (xs := [Itm.tok (fun t => Value.int 1 t)]) (by rfl) lF'w lN'w (by k_mem) (by k_asm) (by k_asm) (fun _ _ h => Value.isInt_shape h) (by rfl) ?_
  | refine kta_keys (knd := PySem.intKind _ _) (enc := PyData.int) (xs := []) (by rfl) lF'w lN'w (by k_mem) (by k_asm) (by k_asm) (fun _ _ h => Value.isInt_shape h) (by rfl) ?_); clear lF'w lN'w; intro i'w l1'w; (try k_lt l1'w))
  k_with "M And" => (k_here; (exact ⟨by first | rfl | exact decide_eq_false (by omega), _, rfl⟩))
  k_with "M exec For Tuple Call cons nil" => (k_here; (rename Fr _ _ _ _ => lF'w); (with_unfolding_all refine' For_turns lF'w ?_; k_whole))
  k_with "M kts_caught" => first | exact PutAt.same (by assumption) | assumption | (refine Eq.trans (PutAt.other (by assumption) _ (by decide)) ?_; k_extra "M kts_caught")
  k_with "M getAttr ref" => (k_here; k_dflt (refine' get_own ?zzk1 ?zzk2 ?zzk3 ?zzk4 ?zzk5 ?zzk6 ?zzk7 ?zzk8 ?zzk9 ?_; (case zzk1 => k_asm); (case zzk2 => k_asm); (case zzk3 => k_inst); (case zzk4 => k_is); (case zzk5 => k_is); (case zzk6 => k_is); (case zzk7 => k_is); (case zzk8 => kts_caught); (case zzk9 => k_handed); k_whole))
  k_with "M setAttr ref" => (k_here; k_dflt (refine' set_abs ?zzk1 ?zzk2 ?zzk3 ?zzk4 ?zzk5 ?zzk6 ?zzk7 ?zzk8 ?zzk9 ?zzk10 ?zzk12 ?zzk13 ?_; (case zzk1 => k_asm); (case zzk2 => k_asm); (case zzk3 => k_asm); (case zzk4 => k_inst); (case zzk5 => exact rfl); (case zzk6 => k_is); (case zzk7 => k_is); (case zzk8 => k_is); (case zzk9 => k_is); (case zzk10 => kts_caught); (case zzk12 => k_updF); (case zzk13 => assumption); k_whole); intro h'w es'w n'w F'w N'w P'w z'w; (try dsimp only at N'w))
  k_with "M call ref" => (k_here; (with_reducible show wpAny _ _ (call (Value.ref 386) _) _ _ _); k_dflt (refine' world_K ?zzhsc ?zzB ?zzF ?zzX ?zzT ?zzN ?_; (case zzhsc => exact rfl); (case zzB => assumption); (case zzF => k_asm); (case zzX => k_asm); (case zzT => k_asm); (case zzN => k_asm); k_whole); intro h'w tk'w W'w dW'w dA'w dK'w dF'w dO'w esW'w nW'w oA'w oK'w oF'w oO'w tb'w tr'w F'w N'w l1'w l2'w l3'w l4'w l5'w l6'w hw'w gk'w gb'w gr'w a1'w a2'w a3'w a4'w a5'w a6'w a7'w a8'w; (try dsimp only at N'w); (try simp only [List.forall_mem_cons, List.forall_mem_nil, and_true] at l1'w); (obtain ⟨gO'w, gF'w, gA'w, _, _, _, _, _, _, _⟩ := id hw'w))
  k_with "M execs cons" => ((with_reducible show wpAny _ _ (execs (Stmt.Assign [Expr.Subscript _ _ _] _ _ :: _) _) _ _ _); refine held ?_)
  trivial
def main.tw12275409235332835511 : Unit := ()
def main.tw11156056980113079860 : Unit := ()
def main.tw10147355735264893470 : Unit := ()
def main.tw16826212616301561204 : Unit := ()
def main.tw16054675910591980869 : Unit := ()
def main.tw2217372664714993069 : Unit := ()
def main.tw6785050993538403870 : Unit := ()
def main.tw3590189159078330304 : Unit := ()
def main.tw11550072657307891605 : Unit := ()
def main.tw18092606169130929673 : Unit := ()
def main.tw12668787059031341806 : Unit := ()
def main.tw9717229181210271784 : Unit := ()
def main.tw8557395850702784662 : Unit := ()
def main.tw16898384801079261899 : Unit := ()
def main.tw12915833801598196605 : Unit := ()
def main.tw9361300454564663673 : Unit := ()
def main.tw1628013610222277130 : Unit := ()
def main.tw961187720498965250 : Unit := ()
def main.tw15614240183184123846 : Unit := ()
def main.tw4044139247061151142 : Unit := ()
def main.tw10334261112615635914 : Unit := ()
def main.tw9331080965256306000 : Unit := ()
def main.tw16411370214107742406 : Unit := ()
def main.tw12431731261707249289 : Unit := ()
def main.tw8211959896082780389 : Unit := ()
def main.tw13113777628852026922 : Unit := ()
def main.tw1306636233014830658 : Unit := ()
def main.tw18063282731904131703 : Unit := ()
def main.tw7939164064552038406 : Unit := ()
def main.tw5697280079452891283 : Unit := ()
def main.tw3466206800631347469 : Unit := ()
def main.tw6161133996638707016 : Unit := ()
def main.tw11752208632293872130 : Unit := ()
def main.tw3454311308915712629 : Unit := ()
def main.tw15554039934745177238 : Unit := ()
def main.tw5139629822343419033 : Unit := ()
def main.tw13503263706703578961 : Unit := ()
def main.tw10204856939554784155 : Unit := ()
def main.tw765107192605250810 : Unit := ()
def main.tw656089360051881306 : Unit := ()
def main.tw9483120023164983764 : Unit := ()
def main.tw16519101796099990279 : Unit := ()
def main.tw4365514962571936147 : Unit := ()
def main.tw6912675738884088206 : Unit := ()
def main.tw6886502059237256666 : Unit := ()
def main.tw12839114828313443825 : Unit := ()
def main.tw14539993770535171780 : Unit := ()
def main.tw3549514262204291990 : Unit := ()
def main.tw8467378866343419333 : Unit := ()
def main.tw8118072479153026202 : Unit := ()
def main.tw9682133043923132273 : Unit := ()
def main.tw18442785490491869365 : Unit := ()
def main.tw2225956059507018244 : Unit := ()
def main.tw3796207824708393856 : Unit := ()
def main.tw15595112118272840620 : Unit := ()
def main.tw5649967823195072380 : Unit := ()
def main.tw9976160756891316704 : Unit := ()
def main.tw17091655785135471103 : Unit := ()
def main.tw9302470337196694018 : Unit := ()
def main.tw15491723280356408159 : Unit := ()
def main.tw14009396871252706886 : Unit := ()
def main.tw2821470743931037460 : Unit := ()
def main.tw1850612553970854742 : Unit := ()
def main.tw4544244032028310869 : Unit := ()
def main.tw4324958949535026087 : Unit := ()
def main.tw4681395471914393968 : Unit := ()
def main.tw7846812961960373227 : Unit := ()
def main.tw750237026923860459 : Unit := ()
def main.tw962032349192862916 : Unit := ()
def main.tw13348322127785295214 : Unit := ()
def main.tw1178595665728414349 : Unit := ()
def main.tw12927740378394474205 : Unit := ()
def main.tw10665089971535097683 : Unit := ()
def main.tw9376575566392132001 : Unit := ()
def main.tw10140136200207757160 : Unit := ()
def main.tw14639212616227390028 : Unit := ()
def main.tw2019394398466159022 : Unit := ()
def main.tw15485851114877660061 : Unit := ()
def main.tw6361450105264607166 : Unit := ()
def main.tw13803360072150633466 : Unit := ()
def main.tw3779293765908593550 : Unit := ()
def main.tw52199770228462824 : Unit := ()
def main.tw17737603089517620647 : Unit := ()
def main.tw12885673836220544336 : Unit := ()
def main.tw18218335207050127959 : Unit := ()
def main.tw6334894449686545209 : Unit := ()
def main.tw9265829497004654079 : Unit := ()
def main.tw4900431672193113347 : Unit := ()
def main.tw104360540948158410 : Unit := ()
def main.tw16641786646906312760 : Unit := ()
def main.tw11221353774195762014 : Unit := ()
def main.tw13219505800766818778 : Unit := ()
def main.tw7751025194823839400 : Unit := ()
def main.tw5585478044538960755 : Unit := ()
def main.tw2566753976717531306 : Unit := ()
def main.tw1678875084529416142 : Unit := ()
def main.tw8663697691656813868 : Unit := ()
def main.tw8930851030842425676 : Unit := ()
def main.tw7153082081811710619 : Unit := ()
def main.tw17118054049896295152 : Unit := ()
def main.tw12077450504624328385 : Unit := ()
def main.tw12431561837914552411 : Unit := ()
def main.tw17450470499104002142 : Unit := ()
def main.tw12623159325031504133 : Unit := ()
def main.tw17201416709059790184 : Unit := ()
def main.tw8475525182357872103 : Unit := ()
def main.tw33456957511925785 : Unit := ()
def main.tw9656510801202774680 : Unit := ()
def main.tw3234112476842188716 : Unit := ()
def main.tw16832360635688203351 : Unit := ()
def main.tw18421580907717582127 : Unit := ()
def main.tw9681375758050803366 : Unit := ()
def main.tw12670839924663504800 : Unit := ()
def main.tw11461230924637031220 : Unit := ()
def main.tw4039676971129161736 : Unit := ()
def main.tw9268297945177815525 : Unit := ()
def main.tw10159738436595150677 : Unit := ()
def main.tw6697339332421208802 : Unit := ()
def main.tw5400957986263281647 : Unit := ()
def main.tw7237411587787531456 : Unit := ()
def main.tw11261727412033496967 : Unit := ()
def main.tw4072190877284726289 : Unit := ()
def main.tw11501822485730972192 : Unit := ()
def main.tw66260789543402106 : Unit := ()
def main.tw4775608329324902142 : Unit := ()
def main.tw17679725944135375923 : Unit := ()
def main.tw10877679251791092727 : Unit := ()
def main.tw13642826006792871662 : Unit := ()
def main.tw3627144658338631552 : Unit := ()
def main.tw2583023086579268501 : Unit := ()
def main.tw13838900630717943254 : Unit := ()
def main.tw13777938177461255882 : Unit := ()
def main.tw13626721169425172152 : Unit := ()
def main.tw4261964983698606537 : Unit := ()
def main.tw8478376212529829071 : Unit := ()
def main.tw11403851563620829512 : Unit := ()
def main.tw6741292078354696603 : Unit := ()
def main.tw11135027115929721415 : Unit := ()
def main.tw2496676261509829067 : Unit := ()
def main.tw11987853993630220354 : Unit := ()
def main.tw15166618062012165473 : Unit := ()
set_option Elab.async true in
set_option maxHeartbeats 0 in
theorem main : PySem.Challenge.rw_rr0003_01.Holds := by
  (w_on; o_law; k_head; (case hw => w_witness2); w_strict (
  k_fill
  intro w s₀ s₁ mg mb G Y fa o pm cd doc dV kV ho hd hcd hD hmg hg args vals as hpre hlay hrd hwl hlo
  have KX := km_in_of Y
  replace KX : (Mine.hd.heap_1_39 w.params).In _ := KX
  km_tabs Y
  have X := (Ground.X G).1
  have V := (Ground.X G).2
  refine Ground.open G ?_
  intro T B D TE TW
  try (refine guard_noD D (by decide +kernel) ?_; clear D)
  km_lay T hmg ho hd cd
  clear hmg
  wrow_args hpre hlay hrd hwl hlo
  all_goals (
    first | refine callC_kw (enter_call ?_) | refine enter_call ?_
    w_top on
    kn_posts
    w_call any ho hd hcd hD T F
    clear hd
    kn_ghosts F T
    k_drop
    skip)
  (all_goals try k_fold)
  k_steps
  unfold Held
  refine' law_first ?qhbody ?qhsc ?qB ?qF ?qX ?qT ?qhP ?qhP1 ?qhP2 ?qN ?qhmC ?qhmS ?qhi ?qhlen ?qhoW ?qhoN ?qhoK ?qhK ?qloK ?qhw ?qhc ?qgK ?qgB ?qgR ?qhA ?qloA ?qhKn ?qloKn ?qhF ?qloF ?qhO ?qloO ?qr2 ?qr3 ?qr4 ?qr5 ?qr6 ?qr7 ?qr8 ?qr9 ?qr11 ?qr12 ?qr13 ?qr14 ?qr15 ?qk1 ?qk2 ?qhE ?qhQ
  case qhbody => k_dflt exact rfl
  case qhsc => k_dflt exact rfl
  case qB => k_dflt assumption
  case qF => k_dflt k_asm
  case qX => k_dflt k_asm
  case qT => k_dflt k_asm
  case qN => k_dflt k_asm
  case qhP => k_dflt exact codeHd
  case qhP1 => k_dflt with_unfolding_all assumption
  case qhP2 => k_dflt with_unfolding_all assumption
  case qhmC => k_dflt exact rfl
  case qhmS => k_dflt exact rfl
  case qhi => k_dflt assumption
  case qhlen => k_dflt (rw [List.length_take]; omega)
  case qhoW => k_dflt assumption
  case qhoN => k_dflt with_unfolding_all assumption
  case qhoK => k_dflt assumption
  case qhK => k_dflt assumption
  case qloK => k_dflt assumption
  case qhw => k_dflt assumption
  case qhc => k_dflt (refine' CF.of ?cf1 ?cf2 ?cf3; (case cf1 => k_get); (case cf2 => k_get); (case cf3 => exact Nat.le_of_ble_eq_true rfl))
  case qgK => k_dflt assumption
  case qgB => k_dflt assumption
  case qgR => k_dflt assumption
  case qhA => k_dflt assumption
  case qloA => k_dflt assumption
  case qhKn => k_dflt assumption
  case qloKn => k_dflt assumption
  case qhF => k_dflt assumption
  case qloF => k_dflt assumption
  case qhO => k_dflt assumption
  case qloO => k_dflt assumption
  case qr2 => k_dflt (first | assumption | exact And.left (by assumption) | exact And.left (And.right (And.right (by assumption))) | exact Nat.lt_succ_self _ | exact Nat.lt_succ_of_lt (And.right (And.right (by assumption))) | omega)
  case qr3 => k_dflt (first | assumption | exact And.left (by assumption) | exact And.left (And.right (And.right (by assumption))) | exact Nat.lt_succ_self _ | exact Nat.lt_succ_of_lt (And.right (And.right (by assumption))) | omega)
  case qr4 => k_dflt (first | assumption | exact And.left (by assumption) | exact And.left (And.right (And.right (by assumption))) | exact Nat.lt_succ_self _ | exact Nat.lt_succ_of_lt (And.right (And.right (by assumption))) | omega)
  case qr5 => k_dflt (first | assumption | exact And.left (by assumption) | exact And.left (And.right (And.right (by assumption))) | exact Nat.lt_succ_self _ | exact Nat.lt_succ_of_lt (And.right (And.right (by assumption))) | omega)
  case qr6 => k_dflt (first | assumption | exact And.left (by assumption) | exact And.left (And.right (And.right (by assumption))) | exact Nat.lt_succ_self _ | exact Nat.lt_succ_of_lt (And.right (And.right (by assumption))) | omega)
  case qr7 => k_dflt (first | assumption | exact And.left (by assumption) | exact And.left (And.right (And.right (by assumption))) | exact Nat.lt_succ_self _ | exact Nat.lt_succ_of_lt (And.right (And.right (by assumption))) | omega)
  case qr8 => k_dflt (first | assumption | exact And.left (by assumption) | exact And.left (And.right (And.right (by assumption))) | exact Nat.lt_succ_self _ | exact Nat.lt_succ_of_lt (And.right (And.right (by assumption))) | omega)
  case qr9 => k_dflt (first | assumption | exact And.left (by assumption) | exact And.left (And.right (And.right (by assumption))) | exact Nat.lt_succ_self _ | exact Nat.lt_succ_of_lt (And.right (And.right (by assumption))) | omega)
  case qr11 => k_dflt (first | assumption | exact And.left (by assumption) | exact And.left (And.right (And.right (by assumption))) | exact Nat.lt_succ_self _ | exact Nat.lt_succ_of_lt (And.right (And.right (by assumption))) | omega)
  case qr12 => k_dflt (first | assumption | exact And.left (by assumption) | exact And.left (And.right (And.right (by assumption))) | exact Nat.lt_succ_self _ | exact Nat.lt_succ_of_lt (And.right (And.right (by assumption))) | omega)
  case qr13 => k_dflt (first | assumption | exact And.left (by assumption) | exact And.left (And.right (And.right (by assumption))) | exact Nat.lt_succ_self _ | exact Nat.lt_succ_of_lt (And.right (And.right (by assumption))) | omega)
  case qr14 => k_dflt (first | assumption | exact And.left (by assumption) | exact And.left (And.right (And.right (by assumption))) | exact Nat.lt_succ_self _ | exact Nat.lt_succ_of_lt (And.right (And.right (by assumption))) | omega)
  case qr15 => k_dflt (first | assumption | exact And.left (by assumption) | exact And.left (And.right (And.right (by assumption))) | exact Nat.lt_succ_self _ | exact Nat.lt_succ_of_lt (And.right (And.right (by assumption))) | omega)
  case qk1 => k_dflt (first | assumption | exact And.left (by assumption) | exact And.left (And.right (And.right (by assumption))) | exact Nat.lt_succ_self _ | exact Nat.lt_succ_of_lt (And.right (And.right (by assumption))) | omega)
  case qk2 => k_dflt (first | assumption | exact And.left (by assumption) | exact And.left (And.right (And.right (by assumption))) | exact Nat.lt_succ_self _ | exact Nat.lt_succ_of_lt (And.right (And.right (by assumption))) | omega)
  case qhE => passes_own
  case qhQ =>
    intro h9 tk9 m9 F9 g1 g2 g3
    refine And.intro (goodW_bool F9 (by assumption) (fun _ => ?rs) ?ps) (And.intro g2 (And.intro g1 (And.intro g3 True.intro)))
    case rs => first | rfl | with_unfolding_all rfl | trace_state
    case ps => first | rfl | with_unfolding_all rfl | decide +kernel | trace_state
  ))
end Mine
theorem PySem.Challenge.cw_rr0003_01_holds : PySem.Challenge.rw_rr0003_01.Holds :=
  Mine.main
