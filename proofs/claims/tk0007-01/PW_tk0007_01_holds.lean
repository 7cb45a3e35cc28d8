import PyProof.Rows.All
import Wide.All
import OpenK.AllK
import Wide.FinOn
import PyProof.ExcAttrAll.Exception
import PySem.Challenge.RW_tk0007_01
set_option Elab.async false
set_option linter.all false
set_option maxRecDepth 100000
set_option compiler.extract_closed false
noncomputable section
namespace Mine
open PySem PySem.W PyProof.Rows
abbrev theRow : OpenRow := OpenLaw.row PySem.Challenge.rw_tk0007_01
section
-- the written part alone: the head proper is proved at the end (theorem top)
local macro_rules | `(tactic| o_head $H:term) => `(tactic| assumption)
theorem pre (h : theRow.Holds) : theRow.Holds := by
  k_head
end
def view0 : Program := PySem.W.view PySem.Challenge.pw_tk0007_01 ([1,3,4,5,6,7,8,10,11] ++ [13,14,15,16,17,18,19,20,21] ++ [23,24,25,26,27,28,29,30,31] ++ [32,33,34,35,36,37,38,39,40] ++ [41,42,43,44,45,46,47,48,49,50,51,52] ++ [54,55,56,57,58,59] ++ [61,62,63,64,65])
def addrs0 : List Addr := [2,3,15,18,23,24,25,27,28,30,31,32,33,34,35,38,40,41,43,44,45,48,49,50,52,53,55,56,57,59,60,62,63,64,66,67,69,70,71,73,74,76,77,78,80,81,83,84,85,87,88,90,91,92,94,95,97,98,99,102,103,104,107,108,109,111,112,114,115,116,117,118,120,121,123,124,125,127,128,130,131,132,134,135,137,138,139,141,142,144,145,146,149,150,151,153,154,156,157,158,160,161,163,164,165,167,168,170,171,172,174,175,177,178,179,181,182,184,185,186,188,189,191,192,193,195,196,198,199,200,202,203,205,206,207,209,210,212,213,214,216,217,219,220,221,223,224,226,227,228,230,231,233,234,235,237,238,240,241,242,244,245,247,248,249,251,252,254,255,256,258,259,261,262,263,265,266,268,269,270,272,273,275,276,277,279,280,282,283,284,287,288,289,291,292,294,295,296,298,299,301,302,303,305,306,308,309,310,312,313,315,316,317,320,321,322,324,325,327,328]
def WalkT : Prop := ∀ d kwd, defOf view0 theRow.name = some (d, kwd) → WalkO view0 [Str.ofString "BasicError", Str.ofString "figures_end_lines", Str.ofString "PAIRS", Str.ofString "figures_end_tokens"] (XL view0 []) (Hook.says (kHook pre.heap_1 addrs0 (fun _ => by kernel_rfl))) (OpenRow.toRowW theRow) d kwd (fun f vs => PySem.call f vs)
theorem use_def {o : Option (DefRec × List (Str × PySem.Expr))} {d : DefRec} {kwd : List (Str × PySem.Expr)} {P : DefRec → List (Str × PySem.Expr) → Prop} (e : o = some (d, kwd)) (h : P d kwd) : ∀ d' k', o = some (d', k') → P d' k' := fun d' k' e' => by
  obtain ⟨rfl, rfl⟩ : d = d' ∧ kwd = k' := by
    have := e.symm.trans e'
    exact ⟨congrArg Prod.fst (Option.some.inj this), congrArg Prod.snd (Option.some.inj this)⟩
  exact h
theorem lt_ne {a b : Nat} (h : a < b) : a ≠ b := Nat.ne_of_lt h
theorem gt_ne {a b : Nat} (h : b < a) : a ≠ b := Nat.ne_of_gt h
theorem cj1 {X P : Prop} (h : X ∧ P) : X := h.1
theorem cj2 {X P A : Prop} (h : A ∧ X ∧ P) : X := h.2.1
theorem cj3 {X P A B : Prop} (h : A ∧ B ∧ X ∧ P) : X := h.2.2.1
theorem cj4 {X P A B C : Prop} (h : A ∧ B ∧ C ∧ X ∧ P) : X := h.2.2.2.1
theorem cj5 {X P A B C D : Prop} (h : A ∧ B ∧ C ∧ D ∧ X ∧ P) : X := h.2.2.2.2.1
theorem cl2 {X A : Prop} (h : A ∧ X) : X := h.2
theorem cl3 {X A B : Prop} (h : A ∧ B ∧ X) : X := h.2.2
theorem cl4 {X A B C : Prop} (h : A ∧ B ∧ C ∧ X) : X := h.2.2.2
theorem cl5 {X A B C D : Prop} (h : A ∧ B ∧ C ∧ D ∧ X) : X := h.2.2.2.2
theorem cl6 {X A B C D E : Prop} (h : A ∧ B ∧ C ∧ D ∧ E ∧ X) : X := h.2.2.2.2.2
end Mine
local macro_rules | `(tactic| k_ne) => `(tactic| (refine PySem.W.neN ?_; (try dsimp only); first | exact Mine.lt_ne (by with_reducible assumption) | exact Mine.gt_ne (by with_reducible assumption) | exact Mine.lt_ne (Mine.cj1 (by with_reducible assumption)) | exact Mine.gt_ne (Mine.cj1 (by with_reducible assumption)) | exact Mine.lt_ne (Mine.cl2 (by with_reducible assumption)) | exact Mine.gt_ne (Mine.cl2 (by with_reducible assumption)) | exact Mine.lt_ne (Mine.cj2 (by with_reducible assumption)) | exact Mine.gt_ne (Mine.cj2 (by with_reducible assumption)) | exact Mine.lt_ne (Mine.cl3 (by with_reducible assumption)) | exact Mine.gt_ne (Mine.cl3 (by with_reducible assumption)) | exact Mine.lt_ne (Mine.cj3 (by with_reducible assumption)) | exact Mine.gt_ne (Mine.cj3 (by with_reducible assumption)) | exact Mine.lt_ne (Mine.cl4 (by with_reducible assumption)) | exact Mine.gt_ne (Mine.cl4 (by with_reducible assumption)) | exact Mine.lt_ne (Mine.cj4 (by with_reducible assumption)) | exact Mine.gt_ne (Mine.cj4 (by with_reducible assumption)) | exact Mine.lt_ne (Mine.cl5 (by with_reducible assumption)) | exact Mine.gt_ne (Mine.cl5 (by with_reducible assumption)) | omega))
local macro_rules | `(tactic| walk_at $s:str) => `(tactic| k_extra $s)
-- no quick twin of the program: the plain way comes as far
local macro_rules | `(tactic| k_qdec) => `(tactic| decide +kernel)
local macro_rules | `(tactic| tb_start) => `(tactic| ((case k1 => k_asm); (case k2 => k_asm); (case k3 => k_asm); (case k4 => k_asm); (case k5 => k_asm); (case k6 => first | rfl | assumption); (case k7 => ktr_room); (case k8 => ktr_units)))
local macro_rules | `(tactic| k_updF) => `(tactic| first | exact PySem.W.UpdF.head (by assumption) | exact PySem.W.UpdF.tail (by k_ne) (PySem.W.UpdF.head (by assumption)) | exact PySem.W.UpdF.tail (by k_ne) (PySem.W.UpdF.tail (by k_ne) (PySem.W.UpdF.head (by assumption))))
section
open PySem PySem.W PyProof.Rows
set_option Elab.async false
set_option maxRecDepth 100000
namespace Mine
open Sem (wp)
theorem x_own_init : classOwn (.type "Exception") "__init__" = pure (some (.builtin "Exception.__init__")) := by
  unfold classOwn; kernel_rfl
theorem x_type_wrap : typeOf (.builtin "Exception.__init__") = pure (.type "wrapper_descriptor") := by kernel_rfl
theorem x_slot_get : Slot "wrapper_descriptor" "__get__" "wrapper_descriptor.__get__" := .of (owner := "wrapper_descriptor") (n := "__get__") (by rw [typeLookup_type, builtinLookup_eq_fast]; kernel_rfl) (by decide +kernel) (by decide +kernel) (by decide +kernel)
  (by first | exact .inl (by decide +kernel) | exact .inr (by decide +kernel)) (by rw [isSubtype_type]; kernel_rfl)
theorem x_entry_get : entryFor table "wrapper_descriptor.__get__" = some Builtin.«wrapper_descriptor.__get__» := entryFor_of_tree (by kernel_rfl)
theorem x_getArgs (a b c : Value) : argsOk "wrapper_descriptor.__get__" ⟨[a, b, c], []⟩ := by unfold argsOk; kernel_rfl

section
variable {prog : Program} {w : World} {M : Model} {A : Around} {E : Value → Shared → Prop} {h : Heap} {g : Array GenState} {d : Drawn} {t : Nat} {os : OsState}
variable {nm q : Str} {C N x : Addr} {bs : List Value} {hdct : Bool} {sn : List Str} {sub : List Value} {ab : Bool} {col : Option Bool} {dd : Option Addr} {k0 k1 k2 k3 k5 : Option Value} {newId : String}
abbrev xbm : List Value := [.type "Exception", .type "BaseException", .type "object"]

theorem x_wrapper_get {x : Addr} {o : Obj} {tpv : Value} {Q : Fin → Shared → Prop} (hx : h.get? x = some o) (hc : o.cls = .ref C) (hC : h.get? C = some (excClassObj nm q C N bs xbm hdct sn sub ab col dd k0 k1 k2 k3 k5 newId))
    (hq : Q (.done (.ret (.ref h.objs.size))) ⟨h.push { cls := .type "method-wrapper", data := .fields #[.builtin "Exception.__init__", .ref x] }, g, d, t, os⟩) :
    wpAny (model prog w) A (Builtin.«wrapper_descriptor.__get__» ⟨[.builtin "Exception.__init__", .ref x, tpv], []⟩) Q E ⟨h, g, d, t, os⟩ := by
  have hcE : (Value.ref C :: xbm).contains (.type "Exception") = true := by simp [xbm]
  have e1 : ".".intercalate ("Exception.__init__".cutAt '.').dropLast = "Exception" := by decide +kernel
  unfold Builtin.«wrapper_descriptor.__get__»
  repeat (first | (with_reducible refine wpAny_loadPart_at hx ?_; rw [hc]) | (rw [e1]; with_reducible refine wpAny_isSubtype_exc hC ?_; rw [hcE]) | wp_step)
  exact hq

theorem x_super_ga {so x : Addr} {o : Obj} {tk : Tok} {Q : Fin → Shared → Prop}
    (hso : h.get? so = some { cls := .type "super", dict := none, data := .fields #[.ref C, .ref x, .ref C], slots := #[] }) (hno : Looks (model prog w) h (opaqueClassAbove (.ref C)) none)
    (hx : h.get? x = some o) (hc : o.cls = .ref C) (hC : h.get? C = some (excClassObj nm q C N bs xbm hdct sn sub ab col dd k0 k1 k2 k3 k5 newId)) (hxC : x ≠ C)
    (hq : Q (.done (.ret (.ref h.objs.size))) ⟨h.push { cls := .type "method-wrapper", data := .fields #[.builtin "Exception.__init__", .ref x] }, g, d, t, os⟩) :
    wpAny (model prog w) A (Builtin.«super.__getattribute__» ⟨[.ref so, .str "__init__" tk], []⟩) Q E ⟨h, g, d, t, os⟩ := by
  have hlk := x_slot_get.lookup
  have hne : (Value.ref x == Value.ref C) = false := by simp [hxC]
  have hdt : ({ cls := .type "super", dict := none, data := .fields #[.ref C, .ref x, .ref C], slots := #[] } : Obj).data = .fields #[.ref C, .ref x, .ref C] := rfl
  have f0 : (#[.ref C, .ref x, .ref C] : Array Value)[0]? = some (.ref C) := rfl
  have f1 : (#[.ref C, .ref x, .ref C] : Array Value)[1]? = some (.ref x) := rfl
  have f2 : (#[.ref C, .ref x, .ref C] : Array Value)[2]? = some (.ref C) := rfl
  have o1 := x_own_init
  have o2 := x_type_wrap
  have hT : (⟨h, g, d, t, os⟩ : Shared).TypeIs (.builtin "Exception.__init__") "wrapper_descriptor" := by first | exact rfl | exact x_type_wrap | trivial
  have hn : (Str.ofString "__init__" == Str.ofString "__class__") = false := by decide +kernel
  have hl : ((Value.ref C :: xbm).dropWhile (· != .ref C)).drop 1 = xbm := by simp [xbm]
  unfold Builtin.«super.__getattribute__»
  repeat (first
    | (with_reducible refine wpAny_field hso hdt f0 ?_) | (with_reducible refine wpAny_field hso hdt f1 ?_) | (with_reducible refine wpAny_field hso hdt f2 ?_)
    | (with_reducible refine ks_wpAny_notOpaque hno ?_)
    | (with_reducible refine wpAny_mroOf_exc hC ?_; rw [hl])
    | (with_reducible refine wpAny_call_entry x_slot_get hT x_entry_get ?_ (x_getArgs _ _ _))
    | (with_reducible refine x_wrapper_get hx hc hC ?_)
    | (with_reducible refine ⟨_, rfl, ?_⟩)
    | (simp only [hn, hne, Bool.or_false, Bool.false_eq_true, if_false])
    | wp_step
    | dsimp only)
  exact hq

theorem x_getMethod_super {so x : Addr} {o : Obj} {pl : Sem Bool} {Q : Value × List Value → Shared → Prop}
    (hso : h.get? so = some { cls := .type "super", dict := none, data := .fields #[.ref C, .ref x, .ref C], slots := #[] }) (hno : Looks (model prog w) h (opaqueClassAbove (.ref C)) none)
    (hx : h.get? x = some o) (hc : o.cls = .ref C) (hC : h.get? C = some (excClassObj nm q C N bs xbm hdct sn sub ab col dd k0 k1 k2 k3 k5 newId)) (hxC : x ≠ C)
    (hq : Q (.ref h.objs.size, []) ⟨h.push { cls := .type "method-wrapper", data := .fields #[.builtin "Exception.__init__", .ref x] }, g, d, t + 1, os⟩) :
    wpAny (model prog w) A (getMethod (.ref so) "__init__" pl) Q E ⟨h, g, d, t, os⟩ := by
  have hlk := F.ks_slot_super_ga.lookup
  have hcan := F.ks_canon_super_ga
  have hT : ∀ t', (⟨h, g, d, t', os⟩ : Shared).TypeIs (.ref so) "super" := fun _ => ⟨_, hso, rfl⟩
  unfold getMethod
  refine wpAny_bind (wpAny_specialOf (hT _) hlk ?_)
  dsimp only
  rw [if_pos hcan]
  unfold getAttr getAttrBy
  refine wpAny_bind (wpAny_bind (wpAny_mkText (wpAny_holding (wpAny_bind (wpAny_typeOf (hT _) (wpAny_bind (wpAny_of_eq hlk ?_)))))))
  show wpAny _ _ (getAttrByItsOwn (.ref so) (.str "__init__" t) (.type "super") (.builtin "super.__getattribute__") true false) _ _ _
  unfold getAttrByItsOwn hookBefore callGetattribute boundAndCalled
  refine wpAny_bind (wpAny_of_eq (show (if onTheHeap (.type "super") then typeLookup (.type "super") "__getattr__" else pure none) = pure none from rfl) ?_)
  refine wpAny_bind (wpAny_attempt (wpAny_holding ?_))
  show wpAny _ _ (bindSpecial (.builtin "super.__getattribute__") (.ref so) >>= _) _ _ _
  refine wpAny_bind (wpAny_of_eq (F.ks_slot_super_ga.bind _) ?_)
  refine wpAny_call_entry F.ks_slot_super_ga (hT _) F.ks_entry_super_ga (x_super_ga hso hno hx hc hC hxC ⟨_, rfl, ?_⟩) (F.ks_gaArgs_super _ _)
  exact wpAny_pure (wpAny_pure hq)

theorem x_entry_init : entryFor table "Exception.__init__" = some Builtin.«BaseException.__init__» := PySem.F.excBase_Exception.initEntry
theorem x_init_quiet : plainId "Exception.__init__" = true := by decide +kernel

theorem x_checkBound {x : Addr} {o : Obj} {v : Value} {Q : Unit → Shared → Prop} (hx : h.get? x = some o) (hc : o.cls = .ref C) (hC : h.get? C = some (excClassObj nm q C N bs xbm hdct sn sub ab col dd k0 k1 k2 k3 k5 newId))
    (hq : Q () ⟨h, g, d, t, os⟩) : wpAny M A (checkBoundCall "Exception.__init__" ⟨[.ref x, v], []⟩) Q E ⟨h, g, d, t, os⟩ := by
  have F := PySem.F.excBase_Exception
  have hstar : ∀ (a b : String) (n : Nat), Bind.check ⟨.positional, "*", "Exception", .self, [⟨"args", .varPos, false⟩]⟩ a b n [] = pure () := fun a b n => check_star_args _ _ _ _ _ _
  unfold checkBoundCall
  simp only [F.initRow, F.initKind]
  unfold Bind.checkArgs
  repeat (first | (refine wpAny_onRaise ?_; dsimp only [List.map_nil]; rw [hstar]) | (with_reducible refine wpAny_load hC ?_) | (with_reducible refine wpAny_loadPart_at hx ?_; rw [hc]) | (with_reducible refine wpAny_loadPart_at hC ?_) | wp_step | (dsimp only))
  exact hq

end
end Mine

end
section
open PySem PySem.W PyProof.Rows
set_option Elab.async false
set_option maxRecDepth 100000
namespace Mine
open Sem (wp)
section
variable {prog : Program} {w : World} {M : Model} {A : Around} {E : Value → Shared → Prop} {h : Heap} {g : Array GenState} {d : Drawn} {t : Nat} {os : OsState}
variable {nm q : Str} {C N x : Addr} {bs : List Value} {hdct : Bool} {sn : List Str} {sub : List Value} {ab : Bool} {col : Option Bool} {dd : Option Addr} {k0 k1 k2 k3 k5 : Option Value} {newId : String}

theorem x_call_wrapper {mw x : Addr} {a0 a1 a2 a3 a4 a5 v : Value} {dct : Option Addr} {sl : Array (Option Value)} {R : Result → Shared → Prop}
    (hm : h.get? mw = some { cls := .type "method-wrapper", data := .fields #[.builtin "Exception.__init__", .ref x] })
    (hx : h.get? x = some ⟨.ref C, dct, .fields #[a0, a1, a2, a3, a4, a5], sl⟩) (hC : h.get? C = some (excClassObj nm q C N bs xbm hdct sn sub ab col dd k0 k1 k2 k3 k5 newId))
    (hq : ∀ h', h'.get? x = some ⟨.ref C, dct, .fields #[.ref h.objs.size, a1, a2, a3, a4, a5], sl⟩ → (∀ b o, b ≠ x → h.get? b = some o → h'.get? b = some o) → R (.ok (.ret .none)) ⟨h', g, d, t, os⟩) :
    codeAny (model prog w) A (.call (.ref mw) ⟨[v], []⟩) R ⟨h, g, d, t, os⟩ := by
  refine codeAny_of_tree ?_
  show wpAny _ A.in1 (callAny (.ref mw) _) _ _ _
  unfold callAny
  refine wpAny_bind (wpAny_load hm ?_)
  dsimp only
  refine wpAny_bind (x_checkBound hx rfl hC ?_)
  refine wpAny_pure ⟨Code.quiet_builtin _ (by decide +kernel), codeAny_builtin x_entry_init ?_⟩
  have hf0 : ({ cls := .ref C, dict := dct, data := .fields #[a0, a1, a2, a3, a4, a5], slots := sl } : Obj).data = .fields #[a0, a1, a2, a3, a4, a5] := rfl
  have hx1 := Heap.get?_push_of_some { cls := .type "tuple", data := .seq [v].toArray } hx
  show wpAny _ _ (Builtin.«BaseException.__init__» ⟨[.ref x, v], []⟩) _ _ _
  unfold Builtin.«BaseException.__init__»
  repeat (first | (with_reducible refine wpAny_field hx1 hf0 rfl ?_) | (with_reducible refine wpAny_setField hx1 hf0 (by decide) ?_) | wp_step)
  have fin : R (.ok (.ret .none)) ⟨(h.push { cls := .type "tuple", data := .seq [v].toArray }).update x (Obj.mapFields (·.setIfInBounds 0 (.ref h.objs.size))), g, d, t, os⟩ := by
    refine hq _ (Heap.get?_update_self _ hx1 rfl) (fun b o hb e => ?_)
    rw [Heap.get?_update_other _ _ (Ne.symm hb)]
    exact Heap.get?_push_of_some _ e
  cases a0 <;> first | exact wpAny_pure (wpAny_pure fin) | exact wpAny_letGo (wpAny_pure fin)
end
end Mine

end
section
open PySem PySem.W PyProof.Rows PySem.Calls
set_option Elab.async false
set_option maxRecDepth 100000
namespace Mine
open Sem (wp)
open PySem.Builtin.ObjectAttr
section
variable {prog : Program} {w : World} {A : Around} {K : Frag} {C x : Addr} {s : Shared} {R : Result → Shared → Prop}

theorem x_osa_open {ox : Obj} {od : Option Obj} {name : Str} {tk : Tok} {v : Value} {r : Option Value} {cd : ClassData} (X : K.In s.heap) (I : InstAt s.heap x ox C od) (hc : clsIn K C = some cd) (hm : cd.mro = .ref C :: xbm) (ht : takerIn K C name = some r)
    (h : ∀ b, wpAny (model prog w) A.in1 (match r with | some a => setByDescriptor a (.ref x) v | none => storeInOwnDict (.ref x) (.ref C) (.str name tk) name v b)
      (fun fin s' => match fin with | .done f => R (.ok f) s' | .again c' => c'.quiet = true ∧ codeAny (model prog w) A c' R s') (fun e s' => R (.error e) s') s) :
    codeAny (model prog w) A (.call (.builtin "object.__setattr__") ⟨[.ref x, .str name tk, v], []⟩) R s := by
  have SF := PySem.F.store_object
  have ne : cd.mro.isEmpty = false := by rw [hm]; rfl
  have has : cd.mro.contains (.type "object") = true := by rw [hm]; simp [xbm]
  have sub : Looks (model prog w) s.heap (isInstance (.ref x) (.type "object")) true := I.type.andThen (looks_mroIn X (by unfold mroIn; rw [hc, Option.bind_some, if_neg (by rw [ne]; decide), has]))
  refine codeAny_call_builtin SF.slot.plain SF.entry (@check_slot (model prog w) _ _ s "object.__setattr__" "object" "__setattr__" (.ref x) [.str name tk, v] [] _ SF.kind SF.split sub (SF.args (.ref x) (.str name tk) v) ?_)
  obtain ⟨attr, ha, hr⟩ := Option.bind_eq_some_iff.mp ht
  have hmr : Looks (model prog w) s.heap (mroOf (.ref C)) cd.mro := (looks_clsIn X hc).andThen .now
  have L3 : Looks (model prog w) s.heap (storeTaker? attr) r := by
    cases attr with
    | none => cases hr; exact .now
    | some a =>
      obtain ⟨b, hb, rfl⟩ := Option.map_eq_some_iff.mp hr
      refine (looks_takesIn X hb).andThen ?_
      cases b <;> exact .now
  rw [osa_eq, refuse_eq]
  refine wpAny_bind (wpAny_bind (I.type.here (wpAny_bind (hmr.here ?_))))
  rw [hm, refuseLoop_ref, PySem.F.store_Exception.passes]
  refine wpAny_pure (wpAny_bind (I.type.here (wpAny_bind ((looks_findIn X ha).here (wpAny_bind (L3.here ?_))))))
  exact h _

theorem x_store_first {E : Value → Shared → Prop} {vs : Array Value} {sl : Array (Option Value)} {name : Str} {v : Value} {cd : ClassData} {Q : Unit → Shared → Prop} (X : K.In s.heap)
    (hx : s.heap.get? x = some ⟨.ref C, none, .fields vs, sl⟩) (hs : findIn K (.ref C) "__setattr__" = some (some (.builtin "object.__setattr__")))
    (hc : clsIn K C = some cd) (hm : cd.mro = .ref C :: xbm) (hdt : cd.hasDict = true) (ht : takerIn K C name = some none)
    (hq : ∀ h' tk', h'.get? x = some ⟨.ref C, some s.heap.objs.size, .fields vs, sl⟩ → h'.Ns1 s.heap.objs.size (fun y => if y = name then some v else none) →
      (∀ b o, b ≠ x → s.heap.get? b = some o → h'.get? b = some o) → Q () { s with heap := h', toks := tk' }) :
    wpAny (model prog w) A (setAttr (.ref x) name v) Q E s := by
  have I : InstAt s.heap x ⟨.ref C, none, .fields vs, sl⟩ C none := ⟨hx, rfl, rfl, trivial⟩
  refine set_plain X I hs (x_osa_open (s := { s with toks := s.toks + 1 }) X I hc hm ht fun b => ?_)
  obtain ⟨h, g, d, t, os⟩ := s
  have hx₁ : (h.push { cls := .type "dict", data := .dict #[] }).get? x = some ⟨.ref C, none, .fields vs, sl⟩ := Heap.get?_push_of_some _ hx
  have hxs : x ≠ h.objs.size := Nat.ne_of_lt (Heap.lt_size hx)
  dsimp only
  unfold storeInOwnDict
  refine wpAny_bind (wpAny_pure (wpAny_bind (wpAny_bind (wpAny_loadPart hx (wpAny_bind ((looks_clsIn (h := h) X hc) _ _ _ _ (fun _ _ e => e) ?_))))))
  rw [hdt]
  refine wpAny_bind (wpAny_alloc' ?_)
  refine wpAny_bind (wpAny_update' hx₁ ?_)
  refine wpAny_pure ?_
  have hgd : ((h.push { cls := .type "dict", data := .dict #[] }).update x fun o => { cls := o.cls, dict := some h.objs.size, data := o.data, slots := o.slots }).get? h.objs.size
      = some { cls := .type "dict", data := .dict #[] } :=
    (Heap.get?_update_ne _ _ _ _ hxs.symm).trans (Heap.get?_push_at rfl rfl)
  have hnd : ((h.push { cls := .type "dict", data := .dict #[] }).update x fun o => { cls := o.cls, dict := some h.objs.size, data := o.data, slots := o.slots }).Ns h.objs.size (fun _ => none) :=
    ⟨_, #[], _, hgd, rfl, fun e he => absurd he (by simp), fun _ => rfl⟩
  show wpAny _ _ (storeInDict h.objs.size (.str name t) name v) _ _ _
  unfold storeInDict newKeyGuard
  refine wpAny_bind (wpAny_pure (wpAny_bind (wpAny_nsSet1 (Heap.Ns1.of_empty hnd) fun h' hn' hs => ?_)))
  obtain ⟨oD, esD, epD, hoD, hdD, hcD⟩ := hn'.count (Within.cons name v Within.nil)
  refine wpAny_bind (wpAny_lookBehind hoD (by rw [hdD]; exact pastItsLine_dict (Nat.le_trans hcD (by rw [List.length_cons, List.length_nil, sizeLine_eq]; omega))) ?_)
  refine wpAny_pure ?_
  refine hq h' _ ?_ hn' fun b o hb e => ?_
  · exact (hs.2 x hxs).trans (Heap.get?_update_self _ hx₁ rfl)
  · exact (hs.2 b (Nat.ne_of_lt (Heap.lt_size e))).trans ((Heap.get?_update_ne _ _ _ _ hb).trans (Heap.get?_push_of_some _ e))
end
end Mine

end
section
open PySem PySem.W PyProof.Rows PySem.Calls
set_option Elab.async false
set_option maxRecDepth 100000
namespace Mine
open Sem (wp)
noncomputable abbrev PG : Program := PySem.Challenge.rw_tk0007_01.row.prog
noncomputable abbrev LL : List Str := looseW view0 [Str.ofString "BasicError", Str.ofString "figures_end_lines", Str.ofString "PAIRS", Str.ofString "figures_end_tokens"]
section
variable {w : World} {A A₀ : Around} {E : Value → Shared → Prop} {h₀ base : Heap} {L : Addr} {m mg mb : Str → Option Value} {news : List (Addr × Obj)} {mean : ExcName → Option Value} {env : Env} {outer : List Env} {s : Shared}

def DictHas (o : Obj) (m : Str → Option Value) : Prop := ∃ es ep, o.data = .dict es ep ∧ StrKeys es ∧ UniqKeys es ∧ ∀ name, nsFind es name = m name
theorem DictHas.ns1 {o : Obj} {m : Str → Option Value} {h : Heap} {a : Addr} (x : DictHas o m) (g : h.get? a = some o) : h.Ns1 a m := let ⟨es, ep, r⟩ := x; ⟨o, es, ep, g, r⟩
abbrev excObj (dx : Addr) (ta : Value) : Obj := ⟨.ref 34, some dx, .fields #[ta, .none, .none, .none, .bool false, .none], #[]⟩
def errMap (c v : Value) : Str → Option Value := fun y => if y = (Str.ofString "told") then some v else if y = (Str.ofString "code") then some c else none
theorem fr_but {g h h' : Heap} {L e : Addr} {m : Str → Option Value} (F : Fr g L h m) (k : ∀ b o, b ≠ e → h.get? b = some o → h'.get? b = some o) (hL : L ≠ e) (hg : g.get? e = none) : Fr g L h' m := by
  obtain ⟨oL, es, ep, hl, r⟩ := F.ns
  refine ⟨⟨oL, es, ep, k _ _ hL hl, r⟩, fun b o q => k b o (fun z => ?_) (F.keep b o q), F.above⟩
  rw [z, hg] at q; cases q
theorem news_but {g h h' : Heap} {L e : Addr} {news : List (Addr × Obj)} (N : News g L h news) (k : ∀ b o, b ≠ e → h.get? b = some o → h'.get? b = some o) (hn : ∀ p ∈ news, p.1 ≠ e) : News g L h' news :=
  fun p hp => ⟨k _ _ (hn p hp) (N p hp).1, (N p hp).2⟩

theorem fr_but2 {g h h' : Heap} {L e d : Addr} {m : Str → Option Value} (F : Fr g L h m) (k : ∀ b o, b ≠ e → b ≠ d → h.get? b = some o → h'.get? b = some o) (hL : L ≠ e) (hLd : L ≠ d) (hg : g.get? e = none) (hgd : g.get? d = none) : Fr g L h' m := by
  obtain ⟨oL, es, ep, hl, r⟩ := F.ns
  refine ⟨⟨oL, es, ep, k _ _ hL hLd hl, r⟩, fun b o q => k b o (fun z => ?_) (fun z => ?_) (F.keep b o q), F.above⟩
  · rw [z, hg] at q; cases q
  · rw [z, hgd] at q; cases q
theorem nsK_ex {w : World} : ∃ mN : Str → Option Value, (∀ {h : Heap}, (pre.heap_1 w.params).In h → h.Ns 33 mN) ∧ mN (Str.ofString "__init__") = some (.ref 31) ∧ mN (Str.ofString "__setattr__") = none ∧ mN (Str.ofString "code") = none ∧ mN (Str.ofString "told") = none := by
  have e33 : ∃ es ep, (pre.heap_1 w.params).lookup 33 = some ⟨.type "dict", none, .dict es ep, #[]⟩ ∧ StrKeys es ∧ nsFind es (Str.ofString "__init__") = some (.ref 31) ∧ nsFind es (Str.ofString "__setattr__") = none ∧ nsFind es (Str.ofString "code") = none ∧ nsFind es (Str.ofString "told") = none := by
    refine ⟨_, _, rfl, ?_, rfl, rfl, rfl, rfl⟩
    intro e he
    simp only [List.mem_toArray, List.mem_cons, List.not_mem_nil, or_false] at he
    rcases he with rfl | rfl | rfl | rfl | rfl | rfl <;> exact ⟨_, _, rfl⟩
  obtain ⟨es, ep, a1, a2, a3⟩ := e33
  exact ⟨nsFind es, fun {h} X => ⟨_, es, ep, X _ _ a1, rfl, a2, fun _ => rfl⟩, a3⟩

set_option maxHeartbeats 4000000 in
theorem c_basic {c v : Value} {Q : Value → Shared → Prop} (B : Below A₀ base outer h₀) (F : Fr h₀ L s.heap m) (X₀ : (pre.heap_1 w.params).In h₀) (N : News h₀ L s.heap news) (T : Top view0 LL mean mg mb h₀)
    (hA : A.frames = some (env :: outer)) (hf : env.frame = some L) (hke : env.scope.kind = .function) (hroom : A.depth + 1 < recursionLimit)
    (hq : ∀ e dx oD ta h' tk', Fr h₀ L h' m → News h₀ L h' ((e, excObj dx ta) :: (dx, oD) :: news) → DictHas oD (errMap c v) → e ≠ dx → (∀ p ∈ news, p.1 ≠ e ∧ p.1 ≠ dx) → Q (.ref e) { s with heap := h', toks := tk' }) :
    wpAny (model PG w) A (call (.ref 34) [c, v]) Q E s := by
  have X : (pre.heap_1 w.params).In s.heap := X₀.keeps F.keep
  have e34 : (pre.heap_1 w.params).lookup 34 = some (excClassObj "BasicError" "BasicError" 34 33 [.type "Exception"] xbm true [] [] false none none (some (.ref 15)) none (some (.str (Str.ofString "BasicError") 189)) (some (.str (Str.ofString "BasicError") 197)) (some (.bool true)) "Exception.__new__") := by rfl
  obtain ⟨hh, g, d, t, os⟩ := s
  have hC := X _ _ e34
  have e31 : ∃ o, (pre.heap_1 w.params).lookup 31 = some o ∧ o.cls = .type "function" := ⟨_, rfl, rfl⟩
  obtain ⟨o31, e31, c31⟩ := e31
  have nK := nsK_ex (w := w)
  obtain ⟨mN, nsK, n1, n2, n3, n4⟩ := nK
  have hN : hh.Ns 33 mN := nsK X
  refine wpAny_call_exc_init PySem.F.excBase_Exception hC hN n1 (X _ _ e31) c31 (fun h' e hm => ?_) (by simp [sizeLine])
  refine wpAny_call ?_
  obtain ⟨tt, he, htn, htt⟩ := hm.there
  have F1 : Fr h₀ L h' m := by
    obtain ⟨oL, es, ep, hL, r⟩ := F.ns
    exact ⟨⟨oL, es, ep, hm.keeps _ _ hL, r⟩, fun b o q => hm.keeps _ _ (F.keep b o q), F.above⟩
  have fresh : ∀ b, hh.get? b = none → h₀.get? b = none := fun b q => by
    cases z : h₀.get? b with
    | none => rfl
    | some o => have := F.keep b o z; rw [q] at this; cases this
  have N1 : News h₀ L h' ((e, { cls := .ref 34, data := .fields #[.ref tt, .none, .none, .none, .bool false, .none] }) :: news) := News.more F1 (fun p hp => ⟨hm.keeps _ _ (N p hp).1, (N p hp).2⟩) he (fun es n q => by cases q) (fresh e hm.new)
  refine' ks_code_super (s := ⟨h', g, d, t, os⟩) B F1 X₀ N1 T (by exact hA) hf hke ?k6 ?k7 ?k8 ?k9 ?kB ?_ ?c1 ?c2 ?c3 ?c4
  case k6 => k_dflt k_is
  case k7 => k_dflt k_is
  case k9 => k_dflt (exact binds_K (Frag.In.keeps X₀ F1.keep) rfl (by k_is) rfl rfl rfl)
  case kB => exact locs rfl
  case c1 => decide
  case c2 => rfl
  case c3 => rfl
  case c4 => rfl
  case k8 =>
    show (A.under (Code.builtin "type.__call__" _)).depth < recursionLimit
    simp only [depth_under_make]
    exact hroom
  intro gg L' h1 FG F' N' B' X' T' lt
  refine ks_wpAt_execs_cons (ks_wpAt_Expr_any (ks_wpAt_MethodCall ?_))
  refine ks_node (x := e) (odx := none) (C := 34) (D := 34) (s := ⟨h1, g, d, _, os⟩) F' X' N' T' (by k_dflt k_is) (by rfl) (by rfl) ⟨(N' _ (.head _)).1, rfl, rfl, trivial⟩ (by k_dflt k_is) (by rfl) (by decide +kernel) (by k_dflt k_is) (by k_dflt k_is) (by k_dflt k_is) (by k_dflt k_is) (by decide +kernel) (by rfl) (by rfl) (by rfl) (by rfl) (by decide +kernel) (by decide +kernel) ?_
  intro so h2 F2 N2 lt2
  have hC2 : h2.get? 34 = _ := (X'.keeps F2.keep) _ _ e34
  have he2 := (N2 (e, _) (.tail _ (.head _))).1
  have hne : e ≠ 34 := fun q => by
    have := hm.new
    rw [q] at this
    rw [hC] at this
    cases this
  refine x_getMethod_super (x := e) (C := 34) (N2 _ (.head _)).1 (looks_opaque (X'.keeps F2.keep) (by k_dflt k_is)) he2 rfl hC2 hne ?_
  dsimp only
  unfold callWith
  refine wpAny_bind (wpAny_holding ?_)
  refine Calls.evalArgs_plain (spliced_more (e := Expr.Name (Str.ofString "code") ⟨5, 25, 5, 29⟩) (rest := []) (env := ksEnv (Str.ofString "BasicError.__init__") _ L' 31 (.ref 30) 18) ?_)
  generalize hmw : (h2.push _) = h3
  have gmw : h3.get? h2.objs.size = some { cls := .type "method-wrapper", data := .fields #[.builtin "Exception.__init__", .ref e] } := hmw ▸ Heap.get?_push_at rfl rfl
  have k3 : ∀ b o, h2.get? b = some o → h3.get? b = some o := fun b o q => hmw ▸ Heap.get?_push_of_some _ q
  have F3 : Fr gg L' h3 _ := hmw ▸ F2.push _
  refine nameX_L F3 (by rfl) (spliced_none ?_)
  refine wpAny_bind (wpAny_standAt ?_)
  have he3 := k3 _ _ he2
  have hC3 := k3 _ _ hC2
  unfold keeperOf
  refine wpAny_bind (wpAny_bind (wpAny_load gmw ?_))
  repeat wp_step
  refine x_call_wrapper gmw he3 hC3 (fun h4 hx4 k4 => ?_)
  dsimp only
  repeat wp_step
  try dsimp only
  have eg : gg.get? e = none := (N' _ (.head _)).2.2
  have eL : L' ≠ e := Ne.symm (N' _ (.head _)).2.1
  have F4 := fr_but F3 k4 eL eg
  have N4 : News gg L' h4 news := news_but (e := e) (fun p hp => ⟨k3 _ _ (N2 p (.tail _ (.tail _ hp))).1, (N2 p (.tail _ (.tail _ hp))).2⟩) k4 (fun p hp z => by
    have q1 := (N1 p (.tail _ hp)).1
    have q2 := (N p hp).1
    rw [z] at q2
    rw [hm.new] at q2
    cases q2)
  have eN : ∀ p ∈ news, p.1 ≠ e := fun p hp z => by
    have q2 := (N p hp).1
    rw [z, hm.new] at q2
    cases q2
  refine ks_wpAt_execs_cons ?_
  refine' ks_wpAt_Assign_Attr ?_ ?_
  rotate_left
  · rfl
  refine PySem.wpAt_of_wpAny (nameX_L F4 (by rfl) (nameX_L F4 (by rfl) ?_))
  have hC4 := (X'.keeps F4.keep) _ _ e34
  have X4 := X'.keeps F4.keep
  refine x_store_first (C := 34) (s := ⟨h4, g, d, _, os⟩) X4 hx4 (by k_dflt k_is) (by k_dflt k_is) (by rfl) (by rfl) (by k_dflt k_is) ?_
  intro h5 tk5 hx5 hns5 k5
  have eL4 : L' < h4.objs.size := F4.ns.lt
  have eN4 : ∀ p ∈ news, p.1 < h4.objs.size := fun p hp => Heap.lt_size (N4 p hp).1
  have ee4 : e < h4.objs.size := Heap.lt_size hx4
  have F5 := fr_but F4 k5 eL eg
  have N5 := news_but N4 k5 eN
  dsimp only
  refine ks_wpAt_execs_cons ?_
  refine' ks_wpAt_Assign_Attr ?_ ?_
  rotate_left
  · rfl
  refine PySem.wpAt_of_wpAny (nameX_L F5 (by rfl) (nameX_L F5 (by rfl) ?_))
  have X5 := X'.keeps F5.keep
  have hC5 := X5 _ _ e34
  have hN5 : h5.Ns 33 mN := nsK X5
  refine store_attr (C := 34) (mA := fun y => if y = (Str.ofString "code") then some c else none) (ns := [(Str.ofString "code")]) PySem.F.store_Exception hC5 hN5 n2 n4 (by rw [typeLookup_type, builtinLookup_eq_fast]; kernel_rfl) hne ⟨_, hx5, rfl, (fun c q => by cases q), .inr ⟨_, rfl, Nat.ne_of_gt ee4, hns5⟩⟩ ?_ ?_ ?_
  · intro h6 tk6 I6 k6 o6
    dsimp only
    refine PySem.wpAt_of_wpAny (wpAny_execs_nil ?_)
    obtain ⟨ob, q1, q2, q3, q4⟩ := I6
    obtain ⟨ob', p1, p2, p3, p4, p5⟩ := o6 _ hx5
    rw [q1] at p1
    cases p1
    obtain ⟨oc, od, oda, osl⟩ := ob
    dsimp only at p2 p3 p4 p5 q4
    obtain rfl := p2
    obtain rfl := p3
    obtain rfl := p4
    obtain rfl := p5 _ rfl
    rcases q4 with ⟨q4, _⟩ | ⟨dd, q4, q5, q6⟩
    · cases q4
    cases q4
    obtain ⟨oD, es, ep, r1, r2⟩ := q6
    have kk6 : ∀ b o, b ≠ e → b ≠ h4.objs.size → h5.get? b = some o → h6.get? b = some o := fun b o hb hd q => k6 b o hb (fun o₀ dx z1 z2 => by rw [hx5] at z1; cases z1; cases z2; exact hd) q
    have gd : gg.get? h4.objs.size = none := by
      cases z : gg.get? h4.objs.size with
      | none => rfl
      | some o => exact absurd (Heap.lt_size (F4.keep _ _ z)) (Nat.lt_irrefl _)
    have F6 := fr_but2 F5 kk6 eL (Nat.ne_of_lt eL4) eg gd
    have N6 : News gg L' h6 ((e, excObj h4.objs.size (.ref h3.objs.size)) :: (h4.objs.size, oD) :: news) := by
      intro p hp
      rcases List.mem_cons.mp hp with rfl | hp
      · exact ⟨q1, Ne.symm eL, eg⟩
      · rcases List.mem_cons.mp hp with rfl | hp
        · exact ⟨r1, Nat.ne_of_gt eL4, gd⟩
        · exact ⟨kk6 _ _ (eN p hp) (Nat.ne_of_lt (eN4 p hp)) (N5 p hp).1, (N5 p hp).2⟩
    refine leaveK_ F6 N6 (fun kF kN => ⟨rfl, ?_⟩)
    exact hq _ _ _ _ _ _ kF kN ⟨es, ep, r2⟩ (Nat.ne_of_lt ee4) (fun p hp => ⟨eN p hp, Nat.ne_of_lt (eN4 p hp)⟩)
  · exact Within.cons _ _ Within.nil
  · simp [sizeLine]
end
end Mine

end
section
open PySem PySem.W PyProof.Rows PySem.Calls
set_option Elab.async false
set_option maxRecDepth 100000
namespace Mine
open Sem (wp)

abbrev flyObj (dx : Addr) (ta tb : Value) : Obj := ⟨.ref 34, some dx, .fields #[ta, tb, .none, .none, .bool false, .none], #[]⟩
def TracedB (h base : Heap) (e dx : Addr) (fl : Value) : Prop :=
  ∃ ta T oT ts, h.get? e = some (flyObj dx ta (.ref T)) ∧ base.get? T = none ∧ T ≠ e ∧ h.get? T = some oT ∧ oT.data = .fields ts ∧ ts[3]? = some fl
def FlyB (base : Heap) (l : List Env) (e dx : Addr) (fl : Value) (h : Heap) : Prop :=
  base.StaysIn h ∧ base.get? e = none ∧ h.FunFrames base l ∧ TracedB h base e dx fl

section
variable {M : Model} {A : Around} {E : Value → Shared → Prop} {s : Shared}

theorem b_entry {base : Heap} {env : Env} {outer : List Env} {L e dx : Addr} {ta tb head : Value} {hadNext : Bool} {Q : Unit → Shared → Prop}
    (hfr : A.frames = some (env :: outer)) (hl : s.heap.FunFrames base (env :: outer)) (hf : env.frame = some L)
    (he : s.heap.get? e = some (flyObj dx ta tb)) (hkb : base.StaysIn s.heap) (hen : base.get? e = none)
    (h : ∀ h', FlyB base (env :: outer) e dx (rawInt L) h' → s.heap.UpToSlots h' → Q () { s with heap := h' }) :
    wpAny M A (do let a ← frameOf env; let pl ← entryPlaceOf L hadNext; let b ← EntryCells.newEntry head a .none (rawInt L) .none pl; setField (.ref e) 1 b) Q E s := by
  have hene : e ∉ (env :: outer).filterMap (·.frame) := fun hm => by
    obtain ⟨_, o, ho, hnf⟩ := hl.mem hm
    rw [he] at ho; cases ho; exact hnf _ rfl
  refine wpAny_bind (wpAny_frameOf_fun hfr hl hf fun h₁ hs₁ => ?_)
  refine wpAny_bind (wpAny_entryPlaceOf fun pl hpl => ?_)
  unfold EntryCells.newEntry newFields
  refine wpAny_bind (wpAny_newObj_type ?_ (hpl.sizeOk5 _ _ _ _ _))
  have he₁ := (hs₁.2.1 e hene).trans he
  have kb₁ : base.StaysIn h₁ := fun b o hbo => (hs₁.2.1 b fun hm => by rw [(hl.mem hm).1] at hbo; cases hbo).trans (hkb b o hbo)
  generalize hT : ({ cls := .type "traceback", dict := none, data := .fields ([head, .ref L, .none, rawInt L, .none] ++ (if pl.isEmpty then List.replicate 6 Value.none else pl)).toArray } : Obj) = oT
  have hTd : oT.data = .fields ([head, .ref L, .none, rawInt L, .none] ++ (if pl.isEmpty then List.replicate 6 Value.none else pl)).toArray := by rw [← hT]
  have hTf : oT.isFreed = false := Obj.isFreed_of_fields hTd
  have he₂ := Heap.get?_push_of_some oT he₁
  have hTe : h₁.objs.size ≠ e := Nat.ne_of_gt (Heap.lt_size he₁)
  have keep : ∀ b o, b ≠ e → h₁.get? b = some o → ((h₁.push oT).update e (Obj.mapFields (·.setIfInBounds 1 (Value.ref h₁.objs.size)))).get? b = some o := fun b o hbe hb => by
    rw [Heap.get?_update_other _ _ (Ne.symm hbe)]
    exact Heap.get?_push_of_some _ hb
  have noRec : ∀ b o, s.heap.get? b = some o → (∀ vs, o.data ≠ .fields vs) → b ≠ e := fun b o hb hnf q => by
    rw [q, he] at hb; cases hb; exact hnf _ rfl
  refine wpAny_setField he₂ rfl (by simp) (h _ ?_ ?_)
  · refine ⟨fun b o hbo => keep b o (fun q => by rw [q, hen] at hbo; cases hbo) (kb₁ b o hbo), hen, hl.of_keeps fun b o hb hnf => ?_, ?_⟩
    · obtain ⟨sl, hs⟩ := hs₁.2.2 b o hb
      exact ⟨_, keep b _ (noRec b o hb hnf) hs, rfl⟩
    · refine ⟨ta, h₁.objs.size, oT, _, Heap.get?_update_self _ he₂ rfl, kb₁.fresh, hTe, ?_, hTd, ?_⟩
      · rw [Heap.get?_update_other _ _ (Ne.symm hTe)]
        exact Heap.get?_push_size _ hTf
      · first | (simp; done) | (rcases hpl with rfl | ⟨_, _, _, _, _, _, _, rfl⟩ <;> simp)
  · intro b o hb hnf
    obtain ⟨sl, hs⟩ := hs₁.2.2 b o hb
    exact ⟨sl, keep b _ (noRec b o hb hnf) hs⟩

theorem b_note_first {base : Heap} {env : Env} {outer : List Env} {L e dx : Addr} {ta : Value} {Q : Unit → Shared → Prop}
    (hfr : A.frames = some (env :: outer)) (hl : s.heap.FunFrames base (env :: outer)) (hf : env.frame = some L)
    (he : s.heap.get? e = some (flyObj dx ta .none)) (hkb : base.StaysIn s.heap) (hen : base.get? e = none)
    (h : ∀ h', FlyB base (env :: outer) e dx (rawInt L) h' → s.heap.UpToSlots h' → Q () { s with heap := h' }) : wpAny M A (noteFrame (.ref e) env) Q E s := by
  unfold noteFrame
  simp only [hf]
  refine wpAny_bind (wpAny_field (x := Value.none) he rfl rfl ?_)
  rw [if_neg (by decide)]
  exact b_entry hfr hl hf he hkb hen h

theorem b_note_on {base : Heap} {env : Env} {outer : List Env} {L e dx : Addr} {Q : Unit → Shared → Prop}
    (hfr : A.frames = some (env :: outer)) (hf : env.frame = some L) (x : FlyB base (env :: outer) e dx .none s.heap)
    (h : ∀ h', FlyB base (env :: outer) e dx (rawInt L) h' → s.heap.UpToSlots h' → Q () { s with heap := h' }) : wpAny M A (noteFrame (.ref e) env) Q E s := by
  obtain ⟨hkb, hen, hl, ta, T, oT, ts, he, hnT, hTe, hT, hdT, h3⟩ := x
  unfold noteFrame
  simp only [hf]
  refine wpAny_bind (wpAny_field (x := Value.ref T) he rfl rfl ?_)
  rw [if_pos (show (Value.ref T != Value.none) = true from by simp)]
  refine wpAny_bind (wpAny_field hT hdT h3 ?_)
  rw [if_neg (show ¬ ((Value.none == rawInt L) = true) from by simp [rawInt])]
  refine wpAny_bind (wpAny_setField hT hdT (Array.getElem?_eq_some_iff.mp h3).1 ?_)
  have other : ∀ b, b ≠ T → (s.heap.update T (Obj.mapFields (·.setIfInBounds 3 Value.none))).get? b = s.heap.get? b := fun b hb => Heap.get?_update_other _ _ (Ne.symm hb)
  have noRec : ∀ b o, s.heap.get? b = some o → (∀ vs, o.data ≠ .fields vs) → b ≠ T := fun b o hb hnf q => by
    rw [q, hT] at hb; cases hb; exact hnf ts hdT
  refine b_entry hfr (hl.of_keeps fun b o hb hnf => ⟨o, (other b (noRec b o hb hnf)).trans hb, rfl⟩) hf ((other e (Ne.symm hTe)).trans he)
    (fun b o hbo => (other b fun q => by rw [q, hnT] at hbo; cases hbo).trans (hkb b o hbo)) hen fun h' x1 x2 => h h' x1 fun b o hb hnf => x2 b o ((other b (noRec b o hb hnf)).trans hb) hnf

theorem b_flight {base : Heap} {l : List Env} {e dx : Addr} {fl : Value} {Q : Unit → Shared → Prop} (x : FlyB base l e dx fl s.heap)
    (h : ∀ h', FlyB base l e dx .none h' → s.heap.UpToSlots h' → Q () { s with heap := h' }) : wpAny M A (setFlight (.ref e) none) Q E s := by
  obtain ⟨hkb, hen, hl, ta, T, oT, ts, he, hnT, hTe, hT, hdT, h3⟩ := x
  have hsz3 : 3 < ts.size := (Array.getElem?_eq_some_iff.mp h3).1
  unfold setFlight
  refine wpAny_bind (wpAny_field (x := Value.ref T) he rfl rfl ?_)
  rw [if_pos (show (Value.ref T != Value.none) = true from by simp)]
  have other : ∀ b, b ≠ T → (s.heap.update T (Obj.mapFields (·.setIfInBounds 3 ((none : Option Addr).elim Value.none fun f => rawInt f)))).get? b = s.heap.get? b := fun b hb => Heap.get?_update_other _ _ (Ne.symm hb)
  have noRec : ∀ b o, s.heap.get? b = some o → (∀ vs, o.data ≠ .fields vs) → b ≠ T := fun b o hb hnf q => by
    rw [q, hT] at hb; cases hb; exact hnf ts hdT
  refine wpAny_setField hT hdT hsz3 (h _ ⟨fun b o hbo => (other b fun q => by rw [q, hnT] at hbo; cases hbo).trans (hkb b o hbo), hen,
    hl.of_keeps fun b o hb hnf => ⟨o, (other b (noRec b o hb hnf)).trans hb, rfl⟩, ?_⟩ fun b o hb hnf => ⟨o.slots, (other b (noRec b o hb hnf)).trans hb⟩)
  exact ⟨ta, T, _, _, (other e (Ne.symm hTe)).trans he, hnT, hTe, Heap.get?_update_self _ hT (Obj.isFreed_of_fields (Obj.data_mapFields hdT _)), Obj.data_mapFields hdT _, by simp [hsz3]⟩
end
end Mine

end
section
open PySem PySem.W PyProof.Rows PySem.Calls
set_option Elab.async false
set_option maxRecDepth 100000
namespace Mine
open Sem (wp)

def RaisedB (base : Heap) (l : List Env) (e : Addr) (c : Value) (news : List (Addr × Obj)) (h : Heap) : Prop :=
  ∃ B dx oD v, base.StaysIn B ∧ (∀ q ∈ news, B.get? q.1 = some q.2 ∧ base.get? q.1 = none) ∧ FlyB B l e dx .none h ∧ B.get? dx = some oD ∧ base.get? dx = none ∧ DictHas oD (errMap c v)

theorem FlyB.pop {base : Heap} {env : Env} {l : List Env} {e dx : Addr} {fl : Value} {h : Heap} (x : FlyB base (env :: l) e dx fl h) : FlyB base l e dx fl h := by
  obtain ⟨k1, k2, ⟨_, _, k3⟩, k4⟩ := x
  exact ⟨k1, k2, k3, k4⟩

section
variable {M : Model} {A : Around} {E : Value → Shared → Prop} {s' : Shared} {base g g₂ h : Heap} {outer : List Env} {L a e dx : Addr} {oD : Obj} {ta c v : Value} {m : Str → Option Value} {name : Str} {scope : Scope} {cd : Value} {Q : Unit → Shared → Prop} {news : List (Addr × Obj)}

theorem leave_newB (K : Below A base outer g) (F : Fr g L s'.heap m) (N : News g L s'.heap ((e, excObj dx ta) :: (dx, oD) :: news)) (hD : DictHas oD (errMap c v)) (hne : e ≠ dx) (hn : ∀ p ∈ news, p.1 ≠ e ∧ p.1 ≠ dx)
    (hQ : ∀ h', RaisedB base outer e c news h' → g.UpToSlots h' → Q () { s' with heap := h' }) (hk : scope.kind = .function := by rfl) :
    wpAny M (A.deeper (envOf name scope L a cd)) (leaving (envOf name scope L a cd) (.ref e)) Q E s' := by
  have K' := K.push (name := name) (a := a) (cd := cd) F hk
  have hin : ∀ env ∈ (envOf name scope L a cd :: outer), ∀ b, env.frame = some b → b ∈ (e :: (envOf name scope L a cd :: outer).filterMap (·.frame)) := fun env he b hb => List.mem_cons_of_mem _ (List.mem_filterMap.mpr ⟨env, he, hb⟩)
  have he := N _ (.head _)
  have hdx := N _ (.tail _ (.head _))
  have isnt : ∀ q : Addr × Obj, s'.heap.get? q.1 = some q.2 → q.1 ≠ L → g.get? q.1 = none → q.1 ≠ e → q.1 ∉ (e :: (envOf name scope L a cd :: outer).filterMap (·.frame)) := fun q h1 h2 h3 h4 hm => by
    rcases List.mem_cons.mp hm with z | hm
    · exact h4 z
    · obtain ⟨env, he', hf⟩ := List.mem_filterMap.mp hm
      rcases List.mem_cons.mp he' with rfl | he'
      · exact h2 (Option.some.inj hf).symm
      · obtain ⟨o, ho, _⟩ := (K.frames.mem (List.mem_filterMap.mpr ⟨env, he', hf⟩)).2
        rw [h3] at ho; cases ho
  have ebase : base.get? e = none := fresh_of_stays K.stays he.2.2
  have st : base.StaysIn (hideAll s'.heap (e :: (envOf name scope L a cd :: outer).filterMap (·.frame))) := fun b o q => hideAll_get _ (K'.stays b o q) fun hm => by
    rcases List.mem_cons.mp hm with z | hm
    · rw [z, ebase] at q; cases q
    · rw [(K'.frames.mem hm).1] at q; cases q
  have hl : ∀ q ∈ news, (hideAll s'.heap (e :: (envOf name scope L a cd :: outer).filterMap (·.frame))).get? q.1 = some q.2 ∧ base.get? q.1 = none := fun q hq =>
    have N' := N q (.tail _ (.tail _ hq))
    ⟨hideAll_get _ N'.1 (isnt q N'.1 N'.2.1 N'.2.2 (hn q hq).1), fresh_of_stays K.stays N'.2.2⟩
  unfold leaving
  refine wpAny_bind (b_note_first (base := hideAll s'.heap (e :: (envOf name scope L a cd :: outer).filterMap (·.frame))) K'.stack (funFrames_hide K'.frames hin) rfl he.1 (fun b o q => of_hideAll _ q) (hideAll_none _ (.head _)) fun h' x1 x2 => ?_)
  refine b_flight x1 fun h'' y1 y2 => ?_
  exact hQ h'' ⟨_, dx, oD, v, st, hl, y1.pop, hideAll_get _ hdx.1 (isnt (dx, oD) hdx.1 hdx.2.1 hdx.2.2 (Ne.symm hne)), fresh_of_stays K.stays hdx.2.2, hD⟩ ((Heap.UpToSlots.of_keeps F.keep).trans (x2.trans y2))

theorem leave_onB (K : Below A base outer g) (F : Fr g L g₂ m) (R : RaisedB base (envOf name scope L a cd :: outer) e c news s'.heap) (hsm : g₂.UpToSlots s'.heap)
    (hQ : ∀ h', RaisedB base outer e c news h' → g.UpToSlots h' → Q () { s' with heap := h' }) :
    wpAny M (A.deeper (envOf name scope L a cd)) (leaving (envOf name scope L a cd) (.ref e)) Q E s' := by
  obtain ⟨B, dx, oD, v, hB, hl, hfl, hd, hbd, hD⟩ := R
  unfold leaving
  refine wpAny_bind (b_note_on (Around.frames_deeper K.stack) rfl hfl fun h' x1 x2 => ?_)
  refine b_flight x1 fun h'' y1 y2 => ?_
  exact hQ h'' ⟨B, dx, oD, v, hB, hl, y1.pop, hd, hbd, hD⟩ ((Heap.UpToSlots.of_keeps F.keep).trans (hsm.trans (x2.trans y2)))

theorem RaisedB.fewer {l : List Env} {news' : List (Addr × Obj)} (R : RaisedB base l e c news h) (hs : ∀ p ∈ news', p ∈ news) : RaisedB base l e c news' h := by
  obtain ⟨B, dx, oD, v, hB, hl, r⟩ := R
  exact ⟨B, dx, oD, v, hB, fun q hq => hl q (hs q hq), r⟩
end

abbrev cls34 : Obj := excClassObj (Str.ofString "BasicError") (Str.ofString "BasicError") 34 33 [.type "Exception"] xbm true [] [] false none none (some (.ref 15)) none (some (.str (Str.ofString "BasicError") 189)) (some (.str (Str.ofString "BasicError") 197)) (some (.bool true)) "Exception.__new__"
def RaiseB (E : Value → Shared → Prop) (v : Value) (s : Shared) : Prop := ∃ e dx ta, v = .ref e ∧ s.heap.get? e = some (excObj dx ta) ∧ s.heap.get? 34 = some cls34 ∧ E (.ref e) s
theorem raise_B {M : Model} {A : Around} {E : Value → Shared → Prop} {s : Shared} {env : Env} {x : Expr} {pos : Pos} {Q : Flow → Shared → Prop} (h : wpAny M A (eval x env) (RaiseB E) E s) (hh : A.handled = none) :
    wpAny M A (exec (.Raise (some x) none pos) env) Q E s := by
  rw [arm_exec_Raise]
  have hcB : (Value.ref 34 :: xbm).contains (.type "BaseException") = true := by simp [xbm]
  simp only [evalOpt, Option.map]
  refine wpAny_bind (wpAny_standAt ?_)
  unfold raiseStmt
  refine wpAny_bind (wpAny_bind (wpAny_mono h (fun v s₁ h₁ => ?_) fun _ _ x => x))
  obtain ⟨e, dx, ta, rfl, he, hC, hE⟩ := h₁
  obtain ⟨hp, g, d, tk, os⟩ := s₁
  repeat (first | with_reducible refine wpAny_loadPart_at he ?_ | with_reducible refine wpAny_loadPart_at hC ?_ | (with_reducible refine wpAny_isSubtype_exc hC ?_; rw [hcB]) | wp_step)
  exact wpAny_raiseNew_none hh hE
end Mine

end
section
open PySem PySem.W PyProof.Rows PySem.Calls
set_option Elab.async false
set_option maxRecDepth 100000
namespace Mine
abbrev Led := List (Addr × Obj)
noncomputable abbrev KK (w : World) : Frag := pre.heap_1 w.params

def Ctr (w : World) (mean : ExcName → Option Value) (mg mb : Str → Option Value) (f : Addr) (d : Nat) (news : Led) (vs : List Value) (post : Value → Led → Prop) (exc : Value → Prop) : Prop :=
  ∀ (dp un : Nat) (gd : Option (List Code)) (cn : Str) (cs : Scope) (a : Addr) (ccd : Value) (cl : List (Str × Addr)) (outer : List Env) (A₀ : Around) (base h₀ : Heap) (L : Addr) (m : Str → Option Value) (s : Shared) (Q E : Value → Shared → Prop),
    Below A₀ base outer h₀ → Fr h₀ L s.heap m → (pre.heap_1 w.params).In h₀ → News h₀ L s.heap news → Top view0 LL mean mg mb h₀ → cs.kind = .function → dp + d < recursionLimit → un + 8 * d < cLine →
    (∀ v news' h' tk', Fr h₀ L h' m → News h₀ L h' news' → post v news' → Q v { s with heap := h', toks := tk' }) →
    (∀ e c g h' tk', g.UpToSlots h' → Fr h₀ L g m → RaisedB base (envX cn cs L a ccd cl :: outer) e c news h' → exc c → E (.ref e) { s with heap := h', toks := tk' }) →
    wpAny (model PG w) (ktrTop dp un gd cn cs L a ccd cl outer) (call (.ref f) vs) Q E s
def NoExc : Value → Prop := fun _ => False
theorem Ctr.use {w : World} {mean : ExcName → Option Value} {mg mb : Str → Option Value} {f : Addr} {d : Nat} {news : Led} {vs : List Value} {post : Value → Led → Prop} {exc : Value → Prop} (C : Ctr w mean mg mb f d news vs post exc)
    {dp un : Nat} {gd : Option (List Code)} {cn : Str} {cs : Scope} {a : Addr} {ccd : Value} {cl : List (Str × Addr)} {outer : List Env} {A₀ : Around} {base h₀ : Heap} {L : Addr} {m : Str → Option Value} {s : Shared} {Q E : Value → Shared → Prop}
    (B : Below A₀ base outer h₀) (F : Fr h₀ L s.heap m) (X : (pre.heap_1 w.params).In h₀) (N : News h₀ L s.heap news) (T : Top view0 LL mean mg mb h₀) (hk : cs.kind = .function) (hd' : dp + d < recursionLimit) (hu : un + 8 * d < cLine)
    (k : ∀ v news' h' tk', Fr h₀ L h' m → News h₀ L h' news' → post v news' → Q v { s with heap := h', toks := tk' })
    (kE : ∀ e c g h' tk', g.UpToSlots h' → Fr h₀ L g m → RaisedB base (envX cn cs L a ccd cl :: outer) e c news h' → exc c → E (.ref e) { s with heap := h', toks := tk' }) :
    wpAny (model PG w) (ktrTop dp un gd cn cs L a ccd cl outer) (call (.ref f) vs) Q E s :=
  C _ _ _ _ _ _ _ _ _ _ _ _ _ _ _ _ _ B F X N T hk hd' hu k kE
theorem Ctr.use0 {w : World} {mean : ExcName → Option Value} {mg mb : Str → Option Value} {f : Addr} {d : Nat} {news : Led} {vs : List Value} {post : Value → Led → Prop} (C : Ctr w mean mg mb f d news vs post NoExc)
    {dp un : Nat} {gd : Option (List Code)} {cn : Str} {cs : Scope} {a : Addr} {ccd : Value} {cl : List (Str × Addr)} {outer : List Env} {A₀ : Around} {base h₀ : Heap} {L : Addr} {m : Str → Option Value} {s : Shared} {Q E : Value → Shared → Prop}
    (B : Below A₀ base outer h₀) (F : Fr h₀ L s.heap m) (X : (pre.heap_1 w.params).In h₀) (N : News h₀ L s.heap news) (T : Top view0 LL mean mg mb h₀) (hk : cs.kind = .function) (hd' : dp + d < recursionLimit) (hu : un + 8 * d < cLine)
    (k : ∀ v news' h' tk', Fr h₀ L h' m → News h₀ L h' news' → post v news' → Q v { s with heap := h', toks := tk' }) :
    wpAny (model PG w) (ktrTop dp un gd cn cs L a ccd cl outer) (call (.ref f) vs) Q E s :=
  C _ _ _ _ _ _ _ _ _ _ _ _ _ _ _ _ _ B F X N T hk hd' hu k fun _ _ _ _ _ _ _ _ q => q.elim
end Mine

end
section
open PySem PySem.W PyProof.Rows
set_option maxRecDepth 100000
namespace Mine
/-- the place behind the signs of x from a on that p takes -/
def endOf (p : Str → Bool) (x : Str) (a : Int) : Int := a + (((x.cps.toList.drop a.toNat).takeWhile fun c => p ⟨#[c]⟩).length : Int)
theorem item_drop {x : Str} {a : Int} (h0 : 0 ≤ a) (h1 : a < x.length) : ∃ c r, x.cps.toList.drop a.toNat = c :: r ∧ x.cps.toList.drop (a + 1).toNat = r ∧ Txt.item x a = ⟨#[c]⟩ := by
  have hl : a.toNat < x.cps.toList.length := by
    have : x.length = x.cps.toList.length := by simp [Str.length]
    omega
  refine ⟨x.cps.toList[a.toNat], x.cps.toList.drop (a.toNat + 1), List.drop_eq_getElem_cons hl, ?_, ?_⟩
  · rw [show (a + 1).toNat = a.toNat + 1 by omega]
  · exact item_meets h0 (by simp [hl])
theorem endOf_step {p : Str → Bool} {x : Str} {a : Int} (h0 : 0 ≤ a) (h1 : a < x.length) (hp : p (Txt.item x a) = true) : endOf p x (a + 1) = endOf p x a := by
  obtain ⟨c, r, e1, e2, e3⟩ := item_drop h0 h1
  rw [e3] at hp
  unfold endOf
  rw [e1, e2, List.takeWhile_cons, if_pos hp, List.length_cons]
  omega
theorem endOf_stop {p : Str → Bool} {x : Str} {a : Int} (h0 : 0 ≤ a) (hp : a < x.length → p (Txt.item x a) = false) : endOf p x a = a := by
  by_cases h1 : a < x.length
  · obtain ⟨c, r, e1, e2, e3⟩ := item_drop h0 h1
    have hp := hp h1
    rw [e3] at hp
    unfold endOf
    rw [e1, List.takeWhile_cons, if_neg (by rw [hp]; decide)]
    simp
  · unfold endOf
    have : x.length = x.cps.toList.length := by simp [Str.length]
    rw [List.drop_of_length_le (by omega)]
    simp
theorem endOf_ge (p : Str → Bool) (x : Str) (a : Int) : a ≤ endOf p x a := by unfold endOf; omega
def EndIs (p : Str → Bool) (x : Str) (i : Int) (v : Value) : Prop := ∃ n t, v = .int n t ∧ n = endOf p x i ∧ i ≤ n ∧ (i ≤ x.length → n ≤ x.length)
theorem endOf_le (p : Str → Bool) (x : Str) (a : Int) (h : a ≤ x.length) (h0 : 0 ≤ a) : endOf p x a ≤ x.length := by
  unfold endOf
  have h1 : ((x.cps.toList.drop a.toNat).takeWhile fun c => p ⟨#[c]⟩).length ≤ (x.cps.toList.drop a.toNat).length := (List.takeWhile_sublist _).length_le
  rw [List.length_drop] at h1
  have : x.length = x.cps.toList.length := by simp [Str.length]
  omega
theorem EndIs.of {p : Str → Bool} {x : Str} {i n : Int} {t : Tok} (h0 : 0 ≤ i) (hn : 0 ≤ n) (he : endOf p x n = endOf p x i) (hs : n < x.length → p (Txt.item x n) = false) : EndIs p x i (.int n t) := by
  have e : n = endOf p x i := (endOf_stop hn hs).symm.trans he
  exact ⟨n, t, rfl, e, e ▸ endOf_ge p x i, fun h => e ▸ endOf_le p x i h h0⟩
end Mine

end
section
open PySem PySem.W PyProof.Rows PySem.Calls
set_option Elab.async false
set_option maxRecDepth 100000
namespace Mine
section
variable {w : World} {mean : ExcName → Option Value} {mg mb : Str → Option Value} {news : Led}


def isFigS (x : Str) : Bool := !decide (x.cps.toList < (Str.ofString "0").cps.toList) && !decide ((Str.ofString "9").cps.toList < x.cps.toList)

set_option maxHeartbeats 4000000 in
theorem c_is_figure (x : Str) (t : Tok) : Ctr w mean mg mb 145 1 news [.str x t] (fun v nw => v = .bool (isFigS x) ∧ news = nw) NoExc := by
  intro dp un gd cn cs a ccd cl outer A₀ base h₀ L m s Q E B F X N T hk hd hu hret hexc
  refine wpAny_call ?_
  k_dflt cell_enter
  refine (let ak := _; (?_ : wpAny _ ak _ _ _ _))
  w_top off
  k_with_none
  k_with "execs cons" => ((try k_fold); refine wpAny_execs_cons ?_; refine (let sk := _; (?_ : wpAny _ _ _ _ _ sk)))
  k_steps
  all_goals refine hret _ _ _ _ (by k_asm) (by k_asm) ⟨?_, rfl⟩
  all_goals simp_all [isFigS]


set_option maxHeartbeats 4000000 in
theorem c_figures_end (x : Str) (t : Tok) (i : Int) (t2 : Tok) (h0 : 0 ≤ i) (hx : x.length ≤ 1000) : Ctr w mean mg mb 157 2 news [.str x t, .int i t2] (fun v nw => EndIs isFigS x i v ∧ news = nw) NoExc := by
  intro dp un gd cn cs a ccd cl outer A₀ base h₀ L m s Q E B F X N T hk hd hu hret hexc
  refine wpAny_call ?_
  k_dflt cell_enter
  refine (let ak := _; (?_ : wpAny _ ak _ _ _ _))
  w_top off
  k_with_none
  k_with "execs cons" => ((try k_fold); refine wpAny_execs_cons ?_; refine (let sk := _; (?_ : wpAny _ _ _ _ _ sk)))
  k_with "call ref" => (k_here; (try refine (?_ : wpAny _ (PySem.Around.deeper _ _) _ _ _ _)); (with_reducible show wpAny _ _ (PySem.call (Value.ref 145) _ _) _ _ _); (try k_fold); refine' Ctr.use0 (c_is_figure _ _) ?R1.k1 ?R1.k2 ?R1.k3 ?R1.k4 ?R1.k5 ?R1.k6 ?R1.k7 ?R1.k8 ?_; tb_start; intro v' nw' h' tk' F' N' q'; obtain ⟨q1, q2⟩ := q'; subst q1 q2; (try dsimp only))
  k_with "exec While" => k_while_given ["row", "at!"] (fun row a0 _ at' => 0 ≤ at' ∧ endOf isFigS row at' = endOf isFigS row a0) (fun row a0 _ at' => row.length - at'.toNat) "at"
  k_with "state" => first | exact ⟨by omega, rfl⟩ | exact ⟨by omega, (endOf_step (by omega) (by assumption) (by assumption)).trans (by assumption)⟩
  k_steps
  all_goals
    refine hret _ _ _ _ (by k_asm) (by k_asm) ⟨EndIs.of h0 (by assumption) (by assumption) (fun h => ?_), rfl⟩
    first | assumption | omega
end
end Mine

end
section
open PySem PySem.W PyProof.Rows PySem.Calls
set_option Elab.async false
set_option linter.all false
set_option maxRecDepth 100000
namespace Mine
section
variable {w : World} {mean : ExcName → Option Value} {mg mb : Str → Option Value} {news : Led}


def inS (lit c : Str) : Bool := !(Builtin.Str.occurrences lit c 0 lit.length 1).isEmpty
def isFigL (c : Str) : Bool := inS (Str.ofString "0123456789") c
def isBlank (c : Str) : Bool := c == Str.ofString " "
def isSkip (c : Str) : Bool := inS (Str.ofString " \t") c
set_option maxHeartbeats 4000000 in
theorem c_blanks_end (x : Str) (t : Tok) (i : Int) (t2 : Tok) (h0 : 0 ≤ i) (hx : x.length ≤ 1000) : Ctr w mean mg mb 70 1 news [.str x t, .int i t2] (fun v nw => EndIs isBlank x i v ∧ news = nw) NoExc := by
  intro dp un gd cn cs a ccd cl outer A₀ base h₀ L m s Q E B F X N T hk hd hu hret hexc
  refine wpAny_call ?_
  k_dflt cell_enter
  refine (let ak := _; (?_ : wpAny _ ak _ _ _ _))
  w_top off
  k_with_none
  k_with "execs cons" => ((try k_fold); refine wpAny_execs_cons ?_; refine (let sk := _; (?_ : wpAny _ _ _ _ _ sk)))
  k_with "exec While" => k_while_given ["text", "at!"] (fun row a0 _ at' => 0 ≤ at' ∧ endOf isBlank row at' = endOf isBlank row a0) (fun row a0 _ at' => row.length - at'.toNat) "at"
  k_with "state" => first | exact ⟨by omega, rfl⟩ | exact ⟨by omega, (endOf_step (by omega) (by assumption) (by simp_all [isFigL, isBlank, isSkip, inS])).trans (by assumption)⟩
  k_steps
  all_goals
    refine hret _ _ _ _ (by k_asm) (by k_asm) ⟨EndIs.of h0 (by assumption) (by assumption) (fun h => ?_), rfl⟩
    first | omega | simp_all [isFigL, isBlank, isSkip, inS]

set_option maxHeartbeats 4000000 in
theorem c_figures_end_l (x : Str) (t : Tok) (i : Int) (t2 : Tok) (h0 : 0 ≤ i) (hx : x.length ≤ 1000) : Ctr w mean mg mb 63 1 news [.str x t, .int i t2] (fun v nw => EndIs isFigL x i v ∧ news = nw) NoExc := by
  intro dp un gd cn cs a ccd cl outer A₀ base h₀ L m s Q E B F X N T hk hd hu hret hexc
  refine wpAny_call ?_
  k_dflt cell_enter
  refine (let ak := _; (?_ : wpAny _ ak _ _ _ _))
  w_top off
  k_with_none
  k_with "execs cons" => ((try k_fold); refine wpAny_execs_cons ?_; refine (let sk := _; (?_ : wpAny _ _ _ _ _ sk)))
  k_with "exec While" => k_while_given ["text", "at!"] (fun row a0 _ at' => 0 ≤ at' ∧ endOf isFigL row at' = endOf isFigL row a0) (fun row a0 _ at' => row.length - at'.toNat) "at"
  k_with "state" => first | exact ⟨by omega, rfl⟩ | exact ⟨by omega, (endOf_step (by omega) (by assumption) (by simp_all [isFigL, isBlank, isSkip, inS])).trans (by assumption)⟩
  k_steps
  all_goals
    refine hret _ _ _ _ (by k_asm) (by k_asm) ⟨EndIs.of h0 (by assumption) (by assumption) (fun h => ?_), rfl⟩
    first | omega | simp_all [isFigL, isBlank, isSkip, inS]

set_option maxHeartbeats 4000000 in
theorem c_skipped (x : Str) (t : Tok) (i : Int) (t2 : Tok) (h0 : 0 ≤ i) (hx : x.length ≤ 1000) : Ctr w mean mg mb 164 1 news [.str x t, .int i t2] (fun v nw => EndIs isSkip x i v ∧ news = nw) NoExc := by
  intro dp un gd cn cs a ccd cl outer A₀ base h₀ L m s Q E B F X N T hk hd hu hret hexc
  refine wpAny_call ?_
  k_dflt cell_enter
  refine (let ak := _; (?_ : wpAny _ ak _ _ _ _))
  w_top off
  k_with_none
  k_with "execs cons" => ((try k_fold); refine wpAny_execs_cons ?_; refine (let sk := _; (?_ : wpAny _ _ _ _ _ sk)))
  k_with "exec While" => k_while_given ["row", "at!"] (fun row a0 _ at' => 0 ≤ at' ∧ endOf isSkip row at' = endOf isSkip row a0) (fun row a0 _ at' => row.length - at'.toNat) "at"
  k_with "state" => first | exact ⟨by omega, rfl⟩ | exact ⟨by omega, (endOf_step (by omega) (by assumption) (by simp_all [isFigL, isBlank, isSkip, inS])).trans (by assumption)⟩
  k_steps
  all_goals
    refine hret _ _ _ _ (by k_asm) (by k_asm) ⟨EndIs.of h0 (by assumption) (by assumption) (fun h => ?_), rfl⟩
    first | omega | simp_all [isFigL, isBlank, isSkip, inS]

end
end Mine

end
section
open PySem PySem.W PyProof.Rows PySem.Calls
set_option Elab.async false
set_option linter.all false
set_option maxRecDepth 100000
namespace Mine
section
variable {w : World} {mean : ExcName → Option Value} {mg mb : Str → Option Value} {news : Led}


theorem fig_find : ∀ c : Nat, 48 ≤ c → c ≤ 57 → Txt.find (Str.ofString "0123456789") ⟨#[c]⟩ = (c : Int) - 48 := by
  intro c h1 h2
  have : c = 48 ∨ c = 49 ∨ c = 50 ∨ c = 51 ∨ c = 52 ∨ c = 53 ∨ c = 54 ∨ c = 55 ∨ c = 56 ∨ c = 57 := by omega
  rcases this with rfl | rfl | rfl | rfl | rfl | rfl | rfl | rfl | rfl | rfl <;> decide +kernel
theorem code_in {x : Str} {pre post : List Int} {n : Nat} (h : KStt.codes x = pre ++ (n : Int) :: post) : n ∈ x.cps.toList := by
  have : (n : Int) ∈ KStt.codes x := by rw [h]; simp
  unfold KStt.codes at this
  obtain ⟨a, ha, e⟩ := List.mem_map.mp this
  rw [show n = a by omega]; exact ha
def toldF (l : List Int) : Int := l.foldl (fun a c => if 65529 + 1 < 10 * a + (c - 48) then 65529 + 1 else 10 * a + (c - 48)) 0
theorem told_step {x : Str} {pre post : List Int} {n : Nat} {a : Int} (hd : ∀ c ∈ x.cps.toList, 48 ≤ c ∧ c ≤ 57) (hk : KStt.codes x = pre ++ (n : Int) :: post) (h1 : a = toldF pre) (h2 : 0 ≤ a) (h3 : a ≤ 65530) :
    (if 65529 + 1 < 10 * a + Txt.find (Str.ofString "0123456789") ⟨#[n]⟩ then 65529 + 1 else 10 * a + Txt.find (Str.ofString "0123456789") ⟨#[n]⟩) = toldF (pre ++ [(n : Int)]) ∧
    0 ≤ (if 65529 + 1 < 10 * a + Txt.find (Str.ofString "0123456789") ⟨#[n]⟩ then 65529 + 1 else 10 * a + Txt.find (Str.ofString "0123456789") ⟨#[n]⟩) ∧
    (if 65529 + 1 < 10 * a + Txt.find (Str.ofString "0123456789") ⟨#[n]⟩ then 65529 + 1 else 10 * a + Txt.find (Str.ofString "0123456789") ⟨#[n]⟩) ≤ 65530 := by
  have hc := hd _ (code_in hk)
  rw [fig_find _ hc.1 hc.2]
  refine ⟨?_, ?_, ?_⟩
  · unfold toldF
    rw [List.foldl_append, h1]
    rfl
  · split <;> omega
  · split <;> omega
set_option maxHeartbeats 4000000 in
theorem c_number_told (x : Str) (t : Tok) (hx : x.length ≤ 1000) (hd : ∀ c ∈ x.cps.toList, 48 ≤ c ∧ c ≤ 57) : Ctr w mean mg mb 77 1 news [.str x t] (fun v nw => (∃ t', v = .int (toldF (x.cps.toList.map (fun (c:Nat) => (c : Int)))) t') ∧ news = nw) NoExc := by
  intro dp un gd cn cs a ccd cl outer A₀ base h₀ L m s Q E B F X N T hk hd' hu hret hexc
  refine wpAny_call ?_
  k_dflt cell_enter
  refine (let ak := _; (?_ : wpAny _ ak _ _ _ _))
  w_top off
  k_with_none
  k_with "execs cons" => ((try k_fold); refine wpAny_execs_cons ?_; refine (let sk := _; (?_ : wpAny _ _ _ _ _ sk)))
  k_with "pyIter str" => k_state (fun pre n => n = toldF pre ∧ 0 ≤ n ∧ n ≤ 65530) "found"
  k_with "state" => first | exact ⟨rfl, by decide, by decide⟩ | exact told_step hd (by assumption) (by assumption) (by assumption) (by assumption)
  k_steps
  · have hc := hd _ (code_in (by assumption))
    have := fig_find _ hc.1 hc.2
    omega
  · exact hret _ _ _ _ (by k_asm) (by k_asm) ⟨⟨_, congrArg (Value.int · _) (by assumption)⟩, rfl⟩
end
end Mine

end
section
open PySem PySem.W PyProof.Rows PySem.Calls
set_option Elab.async false
set_option linter.all false
set_option maxRecDepth 100000
set_option rowWalk.seconds 0
namespace Mine
section
variable {w : World} {mean : ExcName → Option Value} {mg mb : Str → Option Value} {news : Led}


theorem figL_code {c : Nat} (h : isFigL ⟨#[c]⟩ = true) : 48 ≤ c ∧ c ≤ 57 := by
  unfold isFigL inS at h
  rw [StrLaws.found_one] at h
  have h' := of_decide_eq_true h
  have e : (Str.ofString "0123456789").cps.toList = [48, 49, 50, 51, 52, 53, 54, 55, 56, 57] := by decide +kernel
  rw [e] at h'
  simp at h'
  omega
theorem slice_list {x : Str} {i j : Int} (h0 : 0 ≤ i) (h1 : i ≤ j) (h2 : j ≤ x.length) : (Txt.slice x (some i) (some j)).cps.toList = (x.cps.toList.drop i.toNat).take (j - i).toNat := by
  have := eq_of_beq (slice_closes (x := x) (i := i) (j := j) ⟨h0, h1, by simpa [Str.length] using h2⟩)
  rw [this]
theorem mem_tw {p : Nat → Bool} {c : Nat} : ∀ {l : List Nat}, c ∈ l.takeWhile p → p c = true
  | a :: r, h => by
    rw [List.takeWhile_cons] at h
    split at h
    · rcases List.mem_cons.mp h with rfl | h
      · assumption
      · exact mem_tw h
    · cases h
theorem slice_run {p : Str → Bool} {x : Str} {i j : Int} (h0 : 0 ≤ i) (h2 : j ≤ x.length) (e : j = endOf p x i) : ∀ c ∈ (Txt.slice x (some i) (some j)).cps.toList, p ⟨#[c]⟩ = true := by
  have h1 : i ≤ j := e ▸ endOf_ge p x i
  rw [slice_list h0 h1 h2]
  have e2 : (j - i).toNat = ((x.cps.toList.drop i.toNat).takeWhile fun c => p ⟨#[c]⟩).length := by
    unfold endOf at e
    omega
  intro c hc
  have e3 : (x.cps.toList.drop i.toNat).take ((x.cps.toList.drop i.toNat).takeWhile fun c => p ⟨#[c]⟩).length = (x.cps.toList.drop i.toNat).takeWhile fun c => p ⟨#[c]⟩ := by
    generalize x.cps.toList.drop i.toNat = l
    induction l with
    | nil => rfl
    | cons a r ih =>
      rw [List.takeWhile_cons]
      split
      · rw [List.length_cons, List.take_succ_cons, ih]
      · rfl
  rw [e2, e3] at hc
  exact mem_tw (p := fun c => p ⟨#[c]⟩) hc
def PairIs (r : Option Int × Str) (news : Led) (v : Value) (nw : Led) : Prop := ∃ D va t, v = .ref D ∧ nw = (D, ({ cls := .type "tuple", data := .seq #[va, .str r.2 t] } : Obj)) :: news ∧ (∀ p ∈ news, p.1 < D) ∧
  (match r.1 with | none => va = .none | some n => ∃ t, va = .int n t)
def partedR (x : Str) : Option (Option Int × Str) :=
  if endOf isFigL x (endOf isBlank x 0) = endOf isBlank x 0 then some (none, Txt.slice x (some (endOf isBlank x 0)) none)
  else
    let e := endOf isFigL x (endOf isBlank x 0)
    let n := toldF (KStt.codes (Txt.slice x (some (endOf isBlank x 0)) (some e)))
    if 0 ≤ n ∧ n ≤ 65529 then some (some n, if (Txt.slice x (some e) (some (e + 1)) == Str.ofString " ") = true then Txt.slice x (some (e + 1)) none else Txt.slice x (some e) none) else none
section
variable {x : Str} {b e : Int}
theorem partedR_none (e1 : b = endOf isBlank x 0) (e2 : e = endOf isFigL x b) (h : e = b) : partedR x = some (none, Txt.slice x (some b) none) := by
  subst e1 e2
  unfold partedR
  rw [if_pos h]
theorem partedR_one (e1 : b = endOf isBlank x 0) (e2 : e = endOf isFigL x b) (h : e ≠ b) (hn : 0 ≤ toldF ((Txt.slice x (some b) (some e)).cps.toList.map (fun (c:Nat) => (c : Int))) ∧ toldF ((Txt.slice x (some b) (some e)).cps.toList.map (fun (c:Nat) => (c : Int))) ≤ 65529)
    (hb : (Txt.slice x (some e) (some (e + 1)) == Str.ofString " ") = true) : partedR x = some (some (toldF ((Txt.slice x (some b) (some e)).cps.toList.map (fun (c:Nat) => (c : Int)))), Txt.slice x (some (e + 1)) none) := by
  subst e1 e2
  unfold partedR
  rw [if_neg h]
  have hn' : 0 ≤ toldF (KStt.codes (Txt.slice x (some (endOf isBlank x 0)) (some (endOf isFigL x (endOf isBlank x 0))))) ∧ toldF (KStt.codes (Txt.slice x (some (endOf isBlank x 0)) (some (endOf isFigL x (endOf isBlank x 0))))) ≤ 65529 := hn
  dsimp only
  rw [if_pos hn', if_pos hb]
  rfl
theorem partedR_two (e1 : b = endOf isBlank x 0) (e2 : e = endOf isFigL x b) (h : e ≠ b) (hn : 0 ≤ toldF ((Txt.slice x (some b) (some e)).cps.toList.map (fun (c:Nat) => (c : Int))) ∧ toldF ((Txt.slice x (some b) (some e)).cps.toList.map (fun (c:Nat) => (c : Int))) ≤ 65529)
    (hb : (Txt.slice x (some e) (some (e + 1)) == Str.ofString " ") = false) : partedR x = some (some (toldF ((Txt.slice x (some b) (some e)).cps.toList.map (fun (c:Nat) => (c : Int)))), Txt.slice x (some e) none) := by
  subst e1 e2
  unfold partedR
  rw [if_neg h]
  have hn' : 0 ≤ toldF (KStt.codes (Txt.slice x (some (endOf isBlank x 0)) (some (endOf isFigL x (endOf isBlank x 0))))) ∧ toldF (KStt.codes (Txt.slice x (some (endOf isBlank x 0)) (some (endOf isFigL x (endOf isBlank x 0))))) ≤ 65529 := hn
  dsimp only
  rw [if_pos hn', if_neg (show ¬ _ by rw [hb]; decide)]
  rfl
theorem partedR_raise (e1 : b = endOf isBlank x 0) (e2 : e = endOf isFigL x b) (h : e ≠ b) (hn : ¬ (0 ≤ toldF ((Txt.slice x (some b) (some e)).cps.toList.map (fun (c:Nat) => (c : Int))) ∧ toldF ((Txt.slice x (some b) (some e)).cps.toList.map (fun (c:Nat) => (c : Int))) ≤ 65529)) : partedR x = none := by
  subst e1 e2
  unfold partedR
  rw [if_neg h]
  exact if_neg hn
end
def excSN : Value → Prop := fun c => ∃ t, c = .str (Str.ofString "SN") t
set_option maxHeartbeats 4000000 in
theorem c_line_number (n : Int) (t : Tok) : Ctr w mean mg mb 84 3 news [.int n t] (fun v nw => (0 ≤ n ∧ n ≤ 65529) ∧ v = .int n t ∧ news = nw) (fun c => ¬ (0 ≤ n ∧ n ≤ 65529) ∧ excSN c) := by
  intro dp un gd cn cs a ccd cl outer A₀ base h₀ L m s Q E B F X N T hk hd' hu hret hexc
  refine wpAny_call ?_
  k_dflt cell_enter
  refine (let ak := _; (?_ : wpAny _ ak _ _ _ _))
  w_top off
  k_with_none
  k_with "execs cons" => ((try k_fold); refine wpAny_execs_cons ?_; refine (let sk := _; (?_ : wpAny _ _ _ _ _ sk)))
  k_with "exec Raise some none" => (k_here; (refine' raise_B ?_ ?R2.hh); (case hh => k_dflt rfl))
  k_with "call ref" => (k_here; (try refine (?_ : wpAny _ (PySem.Around.deeper _ _) _ _ _ _)); (with_reducible show wpAny _ _ (PySem.call (Value.ref 34) _ _) _ _ _); refine' c_basic ?R3.b1 ?R3.b2 ?R3.b3 ?R3.b4 ?R3.b5 ?R3.b6 ?R3.b7 ?R3.b8 ?R3.b9 ?_; (case b1 => k_asm); (case b2 => k_asm); (case b3 => k_asm); (case b4 => k_asm); (case b5 => k_asm); (case b6 => rfl); (case b7 => rfl); (case b8 => first | rfl | assumption); (case b9 => ktr_room); intro e' dx' oD' ta' h' tk' F' N' d1' d2' d3')
  k_with "RaiseB" => (refine' ⟨_, _, _, rfl, ?R4.r1, ?R4.r2, ?_⟩; (case r1 => exact (News.get (by assumption) (.head _))); (case r2 => exact (Frag.In.keeps (by assumption) (Fr.keep (by assumption))) _ _ (by k_dflt k_is)))
  k_with "leaving ref" => (k_here; first
  | (refine' leave_newB ?R5.k1 ?R5.k2 ?R5.k3 ?R5.k4 ?R5.k5 ?R5.k6 ?_; (case k1 => assumption); (case k2 => assumption); (case k3 => assumption); (case k4 => assumption); (case k5 => assumption); (case k6 => assumption); k_whole; intro h' R' U'; (try dsimp only at R' U' ⊢))
  | (refine' leave_onB ?R5.k1 ?R5.k2 ?R5.k3 ?R5.k4 ?_; (case k3 => assumption); (case k1 => assumption); (case k4 => assumption); (case k2 => assumption); k_whole; intro h' R' U'; (try dsimp only at R' U' ⊢)))
  k_steps
  all_goals first
    | exact hret _ _ _ _ (by k_asm) (by k_asm) ⟨⟨by assumption, by assumption⟩, rfl, rfl⟩
    | (refine hexc _ _ _ _ _ (by assumption) (by assumption) (by assumption) ⟨by omega, _, rfl⟩)


set_option maxHeartbeats 4000000 in
theorem c_parted_row (x : Str) (t : Tok) (hx : x.length ≤ 1000) : Ctr w mean mg mb 91 5 news [.str x t] (fun v nw => ∃ r, partedR x = some r ∧ r.2.length ≤ x.length ∧ PairIs r news v nw) (fun c => partedR x = none ∧ excSN c) := by
  intro dp un gd cn cs a ccd cl outer A₀ base h₀ L m s Q E B F X N T hk hd' hu hret hexc
  refine wpAny_call ?_
  k_dflt cell_enter
  refine (let ak := _; (?_ : wpAny _ ak _ _ _ _))
  w_top off
  k_with_none
  k_with "execs cons" => ((try k_fold); refine wpAny_execs_cons ?_; refine (let sk := _; (?_ : wpAny _ _ _ _ _ sk)))
  k_with "exec Raise some none" => (k_here; (refine' raise_B ?_ ?R2.hh); (case hh => k_dflt rfl))
  k_with "call ref" => (k_here; (try refine (?_ : wpAny _ (PySem.Around.deeper _ _) _ _ _ _)); (with_reducible show wpAny _ _ (PySem.call (Value.ref 34) _ _) _ _ _); refine' c_basic ?R3.b1 ?R3.b2 ?R3.b3 ?R3.b4 ?R3.b5 ?R3.b6 ?R3.b7 ?R3.b8 ?R3.b9 ?_; (case b1 => k_asm); (case b2 => k_asm); (case b3 => k_asm); (case b4 => k_asm); (case b5 => k_asm); (case b6 => rfl); (case b7 => rfl); (case b8 => first | rfl | assumption); (case b9 => ktr_room); intro e' dx' oD' ta' h' tk' F' N' d1' d2' d3')
  k_with "RaiseB" => (refine' ⟨_, _, _, rfl, ?R4.r1, ?R4.r2, ?_⟩; (case r1 => exact (News.get (by assumption) (.head _))); (case r2 => exact (Frag.In.keeps (by assumption) (Fr.keep (by assumption))) _ _ (by k_dflt k_is)))
  k_with "leaving ref" => (k_here; first
  | (refine' leave_newB ?R5.k1 ?R5.k2 ?R5.k3 ?R5.k4 ?R5.k5 ?R5.k6 ?_; (case k1 => assumption); (case k2 => assumption); (case k3 => assumption); (case k4 => assumption); (case k5 => assumption); (case k6 => assumption); k_whole; intro h' R' U'; (try dsimp only at R' U' ⊢))
  | (refine' leave_onB ?R5.k1 ?R5.k2 ?R5.k3 ?R5.k4 ?_; (case k3 => assumption); (case k1 => assumption); (case k4 => assumption); (case k2 => assumption); k_whole; intro h' R' U'; (try dsimp only at R' U' ⊢)))
  k_with "call ref" => (k_here; (try refine (?_ : wpAny _ (PySem.Around.deeper _ _) _ _ _ _)); (with_reducible show wpAny _ _ (PySem.call (Value.ref 84) _ _) _ _ _); (try k_fold); refine' Ctr.use (c_line_number _ _) ?R6.k1 ?R6.k2 ?R6.k3 ?R6.k4 ?R6.k5 ?R6.k6 ?R6.k7 ?R6.k8 ?_ ?_; tb_start; (all_goals first | (intro v' nw' h' tk' F' N' q'; obtain ⟨q0, q1, q2⟩ := q'; subst q1 q2) | (intro e' c' g' h' tk' U' F' R' q'; obtain ⟨q0, tq, q1⟩ := q'; subst q1)); (all_goals (try dsimp only)))
  k_with "call ref" => (k_here; (try refine (?_ : wpAny _ (PySem.Around.deeper _ _) _ _ _ _)); (with_reducible show wpAny _ _ (PySem.call (Value.ref 63) _ _) _ _ _); (try k_fold); refine' Ctr.use0 (c_figures_end_l _ _ _ _ ?R7.p1 ?R7.p2) ?R7.k1 ?R7.k2 ?R7.k3 ?R7.k4 ?R7.k5 ?R7.k6 ?R7.k7 ?R7.k8 ?_; (case p1 => omega); (case p2 => omega); tb_start; intro v' nw' h' tk' F' N' q'; obtain ⟨⟨n', tq, q1, e', g', l'⟩, q2⟩ := q'; subst q1 q2; (have l' := l' (by omega)); (try dsimp only))
  k_with "call ref" => (k_here; (try refine (?_ : wpAny _ (PySem.Around.deeper _ _) _ _ _ _)); (with_reducible show wpAny _ _ (PySem.call (Value.ref 70) _ _) _ _ _); (try k_fold); refine' Ctr.use0 (c_blanks_end _ _ _ _ ?R8.p1 ?R8.p2) ?R8.k1 ?R8.k2 ?R8.k3 ?R8.k4 ?R8.k5 ?R8.k6 ?R8.k7 ?R8.k8 ?_; (case p1 => omega); (case p2 => omega); tb_start; intro v' nw' h' tk' F' N' q'; obtain ⟨⟨n', tq, q1, e', g', l'⟩, q2⟩ := q'; subst q1 q2; (have l' := l' (by omega)); (try dsimp only))
  k_with "call ref" => (k_here; (try refine (?_ : wpAny _ (PySem.Around.deeper _ _) _ _ _ _)); (with_reducible show wpAny _ _ (PySem.call (Value.ref 77) _ _) _ _ _); (try k_fold); refine' Ctr.use0 (c_number_told _ _ ?R9.p1 ?R9.p2) ?R9.k1 ?R9.k2 ?R9.k3 ?R9.k4 ?R9.k5 ?R9.k6 ?R9.k7 ?R9.k8 ?_; (case p1 => omega); (case p2 => (intro c hc; exact figL_code (slice_run (p := isFigL) (by omega) (by omega) (by assumption) c hc))); tb_start; intro v' nw' h' tk' F' N' q'; obtain ⟨⟨tq, q1⟩, q2⟩ := q'; subst q1 q2; (try dsimp only))
  k_with "eval Call" => (k_here; (with_reducible show wpAny _ _ (eval (Expr.Call (Expr.Name _ _) _ [] _) _) _ _ _); k_dflt (refine Call_ ?_))
  k_steps
  · refine' hret _ _ _ _ ?_ ?_ ⟨_, partedR_none (by assumption) (by assumption) (by assumption), by assumption, _, _, _, rfl, rfl, by assumption, rfl⟩ <;> k_asm
  · refine' hret _ _ _ _ ?_ ?_ ⟨_, partedR_one (by assumption) (by assumption) (by assumption) (by assumption) (by assumption), by assumption, _, _, _, rfl, rfl, by assumption, ⟨_, rfl⟩⟩ <;> k_asm
  · exact hexc _ _ _ _ _ (by assumption) (by assumption) (by assumption) ⟨partedR_raise (by assumption) (by assumption) (by assumption) (by assumption), _, rfl⟩
  · refine' hret _ _ _ _ ?_ ?_ ⟨_, partedR_two (by assumption) (by assumption) (by assumption) (by assumption) (by assumption), by assumption, _, _, _, rfl, rfl, by assumption, ⟨_, rfl⟩⟩ <;> k_asm
  · exact hexc _ _ _ _ _ (by assumption) (by assumption) (by assumption) ⟨partedR_raise (by assumption) (by assumption) (by assumption) (by assumption), _, rfl⟩
end
end Mine

end
section
open PySem PySem.W PyProof.Rows PySem.Calls PyProof.V
set_option Elab.async false
set_option linter.all false
set_option maxRecDepth 100000
namespace Mine
abbrev Bk := List (Int × Str)
def encB (b : Bk) : List (PyData × PyData) := b.map fun p => (PyData.int p.1, PyData.str p.2)
noncomputable def lookB (k : Int) : Bk → Option Str
  | [] => none
  | p :: r => if p.1 = k then some p.2 else lookB k r
def hasB (k : Int) (b : Bk) : Bool := (lookB k b).isSome
def putB (k : Int) (x : Str) (b : Bk) : Bk := if b.any (fun p => decide (p.1 = k)) then b.map (fun p => if p.1 = k then (p.1, x) else p) else b ++ [(k, x)]
def delB (k : Int) (b : Bk) : Bk := b.filter fun p => !decide (p.1 = k)
theorem lookup_enc (k : Int) : ∀ b : Bk, PySem.Spec.lookup (.int k) (encB b) = (lookB k b).map PyData.str
  | [] => rfl
  | p :: r => by
    show (if PySem.Spec.same (.int p.1) (.int k) then some (PyData.str p.2) else PySem.Spec.lookup (.int k) (encB r)) = _
    rw [PyProof.V.same_int, lookB]
    by_cases h : p.1 = k
    · simp [h]
    · simp [h, lookup_enc k r]
theorem put_enc (k : Int) (x : Str) (b : Bk) : putD (.int k) (.str x) (encB b) = encB (putB k x b) := by
  unfold putD putB
  have e : (encB b).any (fun p => PySem.Spec.same p.1 (.int k)) = b.any (fun p => decide (p.1 = k)) := by
    unfold encB
    rw [List.any_map]
    exact congrArg (fun f => b.any f) (funext fun p => PyProof.V.same_int _ _)
  rw [e]
  split
  · unfold encB
    rw [List.map_map, List.map_map]
    congr 1
    funext p
    show (if PySem.Spec.same (.int p.1) (.int k) then (PyData.int p.1, PyData.str x) else (PyData.int p.1, PyData.str p.2)) = _
    rw [PyProof.V.same_int]
    by_cases h : p.1 = k <;> simp [h]
  · simp [encB]
theorem del_enc (k : Int) (b : Bk) : delD (.int k) (encB b) = encB (delB k b) := by
  unfold delD delB encB
  rw [List.filter_map]
  have : ((fun p : PyData × PyData => !PySem.Spec.same p.1 (.int k)) ∘ fun p : Int × Str => (PyData.int p.1, PyData.str p.2)) = fun p => !decide (p.1 = k) := funext fun p => by
    show (!PySem.Spec.same (.int p.1) (.int k)) = _
    rw [PyProof.V.same_int]
  rw [this]
def IsBook (w : World) (o : Obj) (b : Bk) : Prop := ∃ kvs, o.IsDictOf (intKind PG w) kvs ∧ PyProof.V.FlatPairs PyData.int kvs (encB b)
theorem enc_len (b : Bk) : (encB b).length = b.length := by simp [encB]

section
variable {w : World} {A : Around} {E : Value → Shared → Prop} {s : Shared} {h₀ : Heap} {L d : Addr} {m : Str → Option Value} {news : Led} {g : Obj → Led} {o : Obj} {b : Bk} {k : Int} {u t : Tok} {x : Str}
theorem IsBook.tab (hB : IsBook w o b) {h : Heap} (hd : h.get? d = some o) (lo : (d == sysModules) = false) : TabAt (intKind PG w) PyData.int h d (encB b) :=
  let ⟨kvs, h1, h2⟩ := hB; ⟨lo, kvs, Heap.dictOf_iff.mpr ⟨o, hd, h1⟩, h2⟩
theorem bk_set {Q : Unit → Shared → Prop} (hB : IsBook w o b) (F : Fr h₀ L s.heap m) (N : News h₀ L s.heap news) (U : UpdF d o news g) (hsz : b.length ≤ 1000)
    (h : ∀ h' o', Fr h₀ L h' m → News h₀ L h' (g o') → IsBook w o' (putB k x b) → Q () { s with heap := h', toks := s.toks + 1 }) :
    wpAny (model PG w) A (setItem (.ref d) (.int k u) (.str x t)) Q E s := by
  obtain ⟨kvs, h1, h2⟩ := hB
  refine setItem_K (enc := PyData.int) (k := k) PyProof.V.same_int (intKind_is _ _ _ _) (PyProof.V.Flat.str _ _) F N U h1 h2 (fun h' o' F' N' a1 a2 => h h' o' F' N' ⟨_, a1, ?_⟩) (by rw [enc_len, sizeLine_eq]; omega)
  rw [put_enc] at a2
  exact a2
theorem bk_in {Q : Value → Shared → Prop} (hB : IsBook w o b) (hd : s.heap.get? d = some o) (lo : (d == sysModules) = false) (h : Q (.bool (hasB k b)) { s with toks := s.toks + 1 }) :
    wpAny (model PG w) A (compareOp .In (.int k u) (.ref d)) Q E s := by
  refine in_intTab (hB.tab hd lo) ?_
  rw [lookup_enc, Option.isSome_map]
  exact h
theorem bk_notin {Q : Value → Shared → Prop} (hB : IsBook w o b) (hd : s.heap.get? d = some o) (lo : (d == sysModules) = false) (h : Q (.bool (!hasB k b)) { s with toks := s.toks + 1 }) :
    wpAny (model PG w) A (compareOp .NotIn (.int k u) (.ref d)) Q E s := by
  refine notin_intTab (hB.tab hd lo) ?_
  rw [lookup_enc, Option.isSome_map]
  exact h
theorem bk_pop {more : List Value} {Q : Value → Shared → Prop} (hB : IsBook w o b) (hmore : more = [] ∨ ∃ x, more = [x]) (hargs : argsOk "dict.pop" ⟨.ref d :: .int k u :: more, []⟩) (F : Fr h₀ L s.heap m) (N : News h₀ L s.heap news) (U : UpdF d o news g) (hsz : b.length ≤ 1000)
    (hk : lookB k b = some x)
    (h : ∀ h' o' t', Fr h₀ L h' m → News h₀ L h' (g o') → IsBook w o' (delB k b) → Q (.str x t') { s with heap := h', toks := s.toks + 1 }) :
    wpAny (model PG w) A (call (.builtin "dict.pop") (.ref d :: .int k u :: more)) Q E s := by
  obtain ⟨kvs, h1, h2⟩ := hB
  refine kt_pop_K (enc := PyData.int) (k := k) (dv := .str x) PyProof.V.same_int (intKind_is _ _ _ _) hmore rfl hargs F N U h1 h2 (by rw [lookup_enc, hk]; rfl) (fun h' o' v hv F' N' a1 a2 => ?_) (by rw [enc_len, sizeLine_eq]; omega)
  obtain ⟨t', rfl⟩ := PyProof.V.Flat.str_inv hv
  rw [del_enc] at a2
  exact h h' o' t' F' N' ⟨_, a1, a2⟩
theorem bk_popd {v : Value} {Q : Value → Shared → Prop} (hB : IsBook w o b) (hd : s.heap.get? d = some o) (lo : (d == sysModules) = false) (hk : lookB k b = none)
    (h : Q v { s with toks := s.toks + 1 }) :
    wpAny (model PG w) A (call (.builtin "dict.pop") [.ref d, .int k u, v]) Q E s :=
  kt_pop_default (enc := PyData.int) (k := k) PyProof.V.same_int (intKind_is _ _ _ _) rfl (hB.tab hd lo) (PySem.F.args_dict_pop_3 _ _ _) (by rw [lookup_enc, hk]; rfl) h
theorem bk_get {value slice : Expr} {Q : Value → Shared → Prop} (hB : IsBook w o b) (hd : s.heap.get? d = some o) (lo : (d == sysModules) = false) (hk : lookB k b = some x)
    (h : ∀ t', Q (.str x t') { s with toks := s.toks + 1 })
    (hs : subscripted slice false (.ref d) (.int k u) = operate [.ref d, .int k u] (getItem (.ref d) (.int k u)) := by with_unfolding_all rfl) (hg : ∀ r, letTemporaryGo value (.ref d) r = pure () := by intro _; with_unfolding_all rfl) :
    wpAny (model PG w) A (subscriptTail value slice (.ref d) (.int k u)) Q E s := by
  refine item_intTab (dv := .str x) (hB.tab hd lo) (by rw [lookup_enc, hk]; rfl) (fun v hv => ?_) hs hg
  obtain ⟨t', rfl⟩ := PyProof.V.Flat.str_inv hv
  exact h t'
def keysB (b : Bk) : List Int := b.map (·.1)
def sortI (l : List Int) : List Int := l.mergeSort (fun a b => decide (a ≤ b))
theorem sorted_unique {a b : List Int} (hp : a.Perm b) (ha : a.Pairwise (· ≤ ·)) (hb : b.Pairwise (· ≤ ·)) : a = b := hp.eq_of_pairwise (fun _ _ _ _ h1 h2 => Int.le_antisymm h1 h2) ha hb
theorem sortI_sorted (l : List Int) : (sortI l).Pairwise (· ≤ ·) := by
  have := List.pairwise_mergeSort (le := fun a b : Int => decide (a ≤ b)) (fun a b c h1 h2 => by simp at *; omega) (fun a b => by simp; omega) l
  exact this.imp (fun h => of_decide_eq_true h)
theorem keys_of : ∀ {kvs : List (Int × Value)} {b : Bk}, FlatPairs PyData.int kvs (encB b) → kvs.map (·.1) = keysB b
  | [], [], _ => rfl
  | _ :: _, _ :: _, .cons _ r => congrArg _ (keys_of r)
theorem int_shape {k : Int} {v : Value} {w : World} (h : (intKind PG w).is k v = true) : ∃ t, v = .int k t := Value.isInt_shape h
theorem ints_of : ∀ {vs : List Value} {ns : List Int}, vs.length = ns.length → (∀ (j : Nat) v, vs[j]? = some v → ∃ k t, ns[j]? = some k ∧ v = Value.int k t) → IntsAre vs ns
  | [], [], _, _ => .nil
  | v :: vs, n :: ns, hl, h => by
    obtain ⟨k, t, e, rfl⟩ := h 0 v rfl
    cases e
    exact .cons _ _ (ints_of (by simpa using hl) fun j v hj => h (j + 1) v hj)
theorem bk_sorted {Q : Value → Shared → Prop} (hB : IsBook w o b) (hh : A.handled = none) (F : Fr h₀ L s.heap m) (N : News h₀ L s.heap news) (hm : (d, o) ∈ news) (lo : (d == sysModules) = false) (hsz : b.length < 64)
    (h : ∀ D vs c h' tk', Fr h₀ L h' m → News h₀ L h' ((D, listOf vs.toArray c) :: news) → (∀ q ∈ news, q.1 < D) → IntsAre vs (sortI (keysB b)) → Q (.ref D) { s with heap := h', toks := tk' }) :
    wpAny (model PG w) A (call (.builtin "sorted") [.ref d]) Q E s := by
  obtain ⟨kvs, h1, h2⟩ := hB
  have hD : s.heap.DictOf (intKind PG w) d kvs := Heap.dictOf_iff.mpr ⟨o, (N _ hm).1, h1⟩
  obtain ⟨ep, hat⟩ := hD.dictAt
  have hlen : kvs.length = b.length := by rw [← h2.length, enc_len]
  have hkeys : kvs.map (·.1) = keysB b := keys_of h2
  refine kdu_sorted (kdl_dict (knd := intKind PG w) (kvs := kvs) (ep := ep) lo) hh F N hat (by rw [hlen, sizeLine_eq]; omega) fun B h' tk vs F' N' l1 hl hv => ?_
  have hi : IntsAre vs (keysB b) := by
    rw [← hkeys]
    refine ints_of (by rw [hl, List.length_map]) fun j v hj => ?_
    obtain ⟨k, x, e1, e2⟩ := hv j v hj
    obtain ⟨t, rfl⟩ := int_shape e2
    exact ⟨k, t, by rw [List.getElem?_map, e1]; rfl, rfl⟩
  refine ksk_lsort (ns := keysB b) F' N' (fun o => Upd.head fun p hp => Nat.ne_of_lt (l1 p hp)) rfl hi (by simp [keysB]; omega) fun vs' ns' c h'' F'' N'' a1 a2 a3 a4 _ => ?_
  have e : ns' = sortI (keysB b) := sorted_unique (a3.trans (List.mergeSort_perm _ _).symm) a4 (sortI_sorted _)
  subst e
  exact h _ _ _ _ _ F'' N'' l1 a1
theorem rows_true {b' : Bk} : ∀ b : Bk, (∀ p ∈ b, lookB p.1 b' = some p.2) → KeqRows (encB b') (encB b) true
  | [], _ => .nil
  | p :: r, h => by
    have e : PySem.Spec.lookup (.int p.1) (encB b') = some (.str p.2) := by rw [lookup_enc, h p (.head _)]; rfl
    have := KeqRows.hit (v := .str p.2) e (rows_true r fun q hq => h q (.tail _ hq))
    have e2 : (PyData.eqv (.str p.2) (.str p.2) && true) = true := by
      simp [PyData.eqv]
    rw [e2] at this
    exact this
theorem bk_eq {d' : Addr} {o' : Obj} {b' : Bk} {Q : Value → Shared → Prop} (hB : IsBook w o b) (hd : s.heap.get? d = some o) (lo : (d == sysModules) = false) (hB' : IsBook w o' b') (hd' : s.heap.get? d' = some o') (lo' : (d' == sysModules) = false)
    (hl : b.length = b'.length) (hs : ∀ p ∈ b, lookB p.1 b' = some p.2) (hu : A.units < cLine) (h : Q (.bool true) s) : wpAny (model PG w) A (compareOp .Eq (.ref d) (.ref d')) Q E s :=
  keq_tabs same_int (hB.tab hd lo) (hB'.tab hd' lo') (by rw [enc_len, enc_len, hl]) hu (rows_true b hs) h
theorem bk_ne {d' : Addr} {o' : Obj} {b' : Bk} {Q : Value → Shared → Prop} (hB : IsBook w o b) (hd : s.heap.get? d = some o) (lo : (d == sysModules) = false) (hB' : IsBook w o' b') (hd' : s.heap.get? d' = some o') (lo' : (d' == sysModules) = false)
    (hl : b.length = b'.length) (hs : ∀ p ∈ b, lookB p.1 b' = some p.2) (hu : A.units < cLine) (h : Q (.bool false) s) : wpAny (model PG w) A (compareOp .NotEq (.ref d) (.ref d')) Q E s :=
  kne_tabs same_int (hB.tab hd lo) (hB'.tab hd' lo') (by rw [enc_len, enc_len, hl]) hu (rows_true b hs) h
end
end Mine

end
section
open PySem PySem.W PyProof.Rows PySem.Calls
set_option Elab.async false
set_option linter.all false
set_option maxRecDepth 100000
set_option rowWalk.seconds 0
namespace Mine
section
variable {w : World} {mean : ExcName → Option Value} {mg mb : Str → Option Value} {news : Led}

theorem has_look {k : Int} {b : Bk} (h : hasB k b = true) : ∃ x, lookB k b = some x := Option.isSome_iff_exists.mp h

theorem News.tail' {h₀ h : Heap} {L : Addr} {q : Addr × Obj} {l : Led} (N : News h₀ L h (q :: l)) : News h₀ L h l := fun p hp => N p (.tail _ hp)
inductive EntR where
  | ok (b : Bk)
  | direct (x : Str)
  | sn
  | ul
def enterR (b : Bk) (x : Str) : EntR :=
  match partedR x with
  | none => .sn
  | some (none, r) => .direct r
  | some (some n, r) => if (Txt.stripChars r (Str.ofString " ") != Str.ofString "") = true then .ok (putB n (Txt.rstripChars r (Str.ofString " ")) b) else if hasB n b = true then .ok (delB n b) else .ul
section
variable {b : Bk} {x r : Str} {n : Int}
theorem enterR_dir (h : partedR x = some (none, r)) : enterR b x = .direct r := by unfold enterR; rw [h]
theorem enterR_sn (h : partedR x = none) : enterR b x = .sn := by unfold enterR; rw [h]
theorem enterR_put (h : partedR x = some (some n, r)) (h2 : (Txt.stripChars r (Str.ofString " ") != Str.ofString "") = true) : enterR b x = .ok (putB n (Txt.rstripChars r (Str.ofString " ")) b) := by unfold enterR; rw [h]; exact if_pos h2
theorem enterR_del (h : partedR x = some (some n, r)) (h2 : (Txt.stripChars r (Str.ofString " ") != Str.ofString "") = false) (h3 : hasB n b = true) : enterR b x = .ok (delB n b) := by unfold enterR; rw [h]; exact (if_neg (by rw [h2]; decide)).trans (if_pos h3)
theorem enterR_ul (h : partedR x = some (some n, r)) (h2 : (Txt.stripChars r (Str.ofString " ") != Str.ofString "") = false) (h3 : hasB n b = false) : enterR b x = .ul := by unfold enterR; rw [h]; exact (if_neg (by rw [h2]; decide)).trans (if_neg (by rw [h3]; decide))
end

set_option maxHeartbeats 4000000 in
theorem c_enter_row (d : Addr) (o : Obj) (b : Bk) (x : Str) (t : Tok) (hx : x.length ≤ 1000) (hb : b.length ≤ 100) (lo : (d == sysModules) = false) (hB : IsBook w o b) (hne : ∀ p ∈ news, p.1 ≠ d) :
    Ctr w mean mg mb 98 8 ((d, o) :: news) [.ref d, .str x t] (fun v nw => (v = .none ∧ ∃ b' o', enterR b x = .ok b' ∧ IsBook w o' b' ∧ nw = (d, o') :: news) ∨ (∃ r t, v = .str r t ∧ enterR b x = .direct r ∧ nw = (d, o) :: news))
      (fun c => (enterR b x = .sn ∧ excSN c) ∨ (enterR b x = .ul ∧ ∃ t, c = .str (Str.ofString "UL") t)) := by
  intro dp un gd cn cs a ccd cl outer A₀ base h₀ L m s Q E B F X N T hk hd' hu hret hexc
  refine wpAny_call ?_
  k_dflt cell_enter
  refine (let ak := _; (?_ : wpAny _ ak _ _ _ _))
  w_top off
  k_with_none
  k_with "execs cons" => ((try k_fold); refine wpAny_execs_cons ?_; refine (let sk := _; (?_ : wpAny _ _ _ _ _ sk)))
  k_with "eval Call" => (k_here; (with_reducible show wpAny _ _ (eval (Expr.Call (Expr.Name _ _) _ [] _) _) _ _ _); k_dflt (refine Call_ ?_))
  k_with "exec Raise some none" => (k_here; (refine' raise_B ?_ ?R12.hh); (case hh => k_dflt rfl))
  k_with "call ref" => (k_here; (try refine (?_ : wpAny _ (PySem.Around.deeper _ _) _ _ _ _)); (with_reducible show wpAny _ _ (PySem.call (Value.ref 34) _ _) _ _ _); refine' c_basic ?R13.b1 ?R13.b2 ?R13.b3 ?R13.b4 ?R13.b5 ?R13.b6 ?R13.b7 ?R13.b8 ?R13.b9 ?_; (case b1 => k_asm); (case b2 => k_asm); (case b3 => k_asm); (case b4 => k_asm); (case b5 => k_asm); (case b6 => rfl); (case b7 => rfl); (case b8 => first | rfl | assumption); (case b9 => ktr_room); intro e' dx' oD' ta' h' tk' F' N' d1' d2' d3')
  k_with "RaiseB" => (refine' ⟨_, _, _, rfl, ?R14.r1, ?R14.r2, ?_⟩; (case r1 => exact (News.get (by assumption) (.head _))); (case r2 => exact (Frag.In.keeps (by assumption) (Fr.keep (by assumption))) _ _ (by k_dflt k_is)))
  k_with "leaving ref" => (k_here; first
  | (refine' leave_newB ?R15.k1 ?R15.k2 ?R15.k3 ?R15.k4 ?R15.k5 ?R15.k6 ?_; (case k1 => assumption); (case k2 => assumption); (case k3 => assumption); (case k4 => assumption); (case k5 => assumption); (case k6 => assumption); k_whole; intro h' R' U'; (try dsimp only at R' U' ⊢))
  | (refine' leave_onB ?R15.k1 ?R15.k2 ?R15.k3 ?R15.k4 ?_; (case k3 => assumption); (case k1 => assumption); (case k4 => assumption); (case k2 => assumption); k_whole; intro h' R' U'; (try dsimp only at R' U' ⊢)))
  k_with "setItem ref int" => (k_here; refine' bk_set ?R16.B ?R16.F ?R16.N ?R16.U ?R16.z ?_; (case F => k_asm); (case N => k_asm); (case U => k_updF); (case B => with_reducible assumption); (case z => omega); intro h' o' F' N' B')
  k_with "compareOp In int ref" => (k_here; refine' bk_in ?R17.B ?R17.D ?R17.l ?_; (case D => exact News.get (by k_asm) (by k_mem)); (case B => with_reducible assumption); (case l => with_reducible assumption))
  k_with "compareOp NotIn int ref" => (k_here; refine' bk_notin ?R18.B ?R18.D ?R18.l ?_; (case D => exact News.get (by k_asm) (by k_mem)); (case B => with_reducible assumption); (case l => with_reducible assumption))
  k_with "getMethod ref" => (k_here; k_dflt (refine' getMethod_tab_any (knd := intKind _ _) (enc := PyData.int) ?R19.k1 ?R19.k2 ?_; (case k1 => exact rfl); (case k2 => exact IsBook.tab (by with_reducible assumption) (News.get (by k_asm) (by k_mem)) (by with_reducible assumption)); k_whole))
  k_with "call builtin:dict.pop" => (k_here; (with_reducible show wpAny _ _ (PySem.call (Value.builtin "dict.pop") [Value.ref _, Value.int _ _]) _ _ _); obtain ⟨xp', hp'⟩ := has_look (by with_reducible assumption); refine' bk_pop (more := []) ?R20.B (.inl rfl) (PySem.F.args_dict_pop_2 _ _) ?R20.F ?R20.N ?R20.U ?R20.z hp' ?_; (case F => k_asm); (case N => k_asm); (case U => k_updF); (case B => with_reducible assumption); (case z => omega); intro h' o' t' F' N' B')
  k_with "call ref" => (k_here; (try refine (?_ : wpAny _ (PySem.Around.deeper _ _) _ _ _ _)); (with_reducible show wpAny _ _ (PySem.call (Value.ref 91) _ _) _ _ _); (try k_fold); refine' Ctr.use (c_parted_row _ _ ?R21.p1) ?R21.k1 ?R21.k2 ?R21.k3 ?R21.k4 ?R21.k5 ?R21.k6 ?R21.k7 ?R21.k8 ?_ ?_; (case p1 => omega); tb_start; (all_goals first | (intro v' nw' h' tk' F' N' q'; obtain ⟨⟨r1', r2'⟩, q0, ql, D', va', t', q1, q2, l1, q3⟩ := q'; subst q1 q2; (dsimp only at ql q3 N'); (try k_lt l1); rcases r1' with _ | n'; (all_goals first | subst q3 | (obtain ⟨tn', q3⟩ := q3; subst q3))) | (intro e' c' g' h' tk' U' F' R' q'; obtain ⟨q0, tq, q1⟩ := q'; subst q1)); (all_goals (try dsimp only)))
  k_steps
  · exact hret _ _ _ _ (by k_asm) (fun p hp => News.tail' (by assumption) p hp) (.inr ⟨_, _, rfl, enterR_dir (by assumption), rfl⟩)
  · exact hret _ _ _ _ (by k_asm) (fun p hp => News.tail' (by assumption) p hp) (.inl ⟨rfl, _, _, enterR_put (by assumption) (by assumption), by assumption, rfl⟩)
  · exact hret _ _ _ _ (by k_asm) (fun p hp => News.tail' (by assumption) p hp) (.inl ⟨rfl, _, _, enterR_del (by assumption) (by assumption) (by assumption), by assumption, rfl⟩)
  · exact hexc _ _ _ _ _ (by assumption) (by assumption) (RaisedB.fewer (by assumption) (fun p hp => .tail _ hp)) (.inr ⟨enterR_ul (by assumption) (by assumption) (by assumption), _, rfl⟩)
  · exact hexc _ _ _ _ _ (by assumption) (by assumption) (by assumption) (.inl ⟨enterR_sn (by assumption), _, rfl⟩)
end
end Mine

end
section
open PySem PySem.W PyProof.Rows PySem.Calls
set_option Elab.async false
set_option linter.all false
set_option maxRecDepth 100000
set_option rowWalk.seconds 0
namespace Mine
section
variable {prog : Program} {w : World} {A : Around} {E : Value → Shared → Prop} {s : Shared} {env : Env} {h₀ : Heap} {x fd : Str} {body : List Stmt} {Q : Flow → Shared → Prop}
theorem fr_set {L : Addr} {h : Heap} {m : Str → Option Value} {v u : Value} (hm : m fd = some v) (F : Fr h₀ L h (fun y => if y = x then some u else m y)) : Fr h₀ L h (fun y => if y = x then some u else if y = fd then some v else m y) := by
  have e : (fun y => if y = x then some u else if y = fd then some v else m y) = fun y => if y = x then some u else m y := by
    funext y
    by_cases h1 : y = x
    · rw [if_pos h1, if_pos h1]
    · rw [if_neg h1, if_neg h1]
      by_cases h2 : y = fd
      · rw [if_pos h2, h2, hm]
      · rw [if_neg h2]
  rw [e]
  exact F
theorem fr_set1 {L : Addr} {h : Heap} {m : Str → Option Value} {v : Value} (hm : m fd = some v) (F : Fr h₀ L h m) : Fr h₀ L h (fun y => if y = fd then some v else m y) := by
  have e : (fun y => if y = fd then some v else m y) = m := by
    funext y
    by_cases h2 : y = fd
    · rw [if_pos h2, h2, hm]
    · rw [if_neg h2]
  rw [e]
  exact F
def BkJ (w : World) (fd : Str) (D : Addr) (cst : Led) (P : Nat → Bk → Prop) (i : Nat) (m : Str → Option Value) (nx : Led) : Prop := m fd = some (.ref D) ∧ ∃ b o, P i b ∧ IsBook w o b ∧ nx = (D, o) :: cst
theorem bk_end {L D : Addr} {cst own news' : Led} {P : Nat → Bk → Prop} {i : Nat} {m' : Str → Option Value} {s₁ : Shared} {h' : Heap} {tk : Nat} {o : Obj} {b : Bk} {l : Addr} {ol : Obj} (hF : Fr h₀ L h' m') (hN : News h₀ L h' news') (hm : m' fd = some (.ref D)) (hB : IsBook w o b) (hP : P (i + 1) b)
    (hn : ∀ p ∈ (D, o) :: (cst ++ own), p ∈ news') (ho : OwnOff own (((D, o) :: cst).map (·.1))) (hl : (l, ol) ∈ cst) : InvEndG h₀ L (fun m' nx => (l, ol) ∈ nx ∧ BkJ w fd D cst P (i + 1) m' nx) own s₁ { s₁ with heap := h', toks := tk } :=
  ⟨h', tk, m', news', (D, o) :: cst, rfl, hF, hN, fun p hp => hn p (by rcases List.mem_cons.mp hp with e | e; exact e ▸ .head _; exact .tail _ (List.mem_append.mpr (.inl e))), fun p hp => hn p (.tail _ (List.mem_append.mpr (.inr hp))), ho, .tail _ hl, hm, b, o, hP, hB, rfl⟩
theorem bk_loop {D l : Addr} {vs : List Value} {xs : List Str} {nn : Nat} {m₀ : Str → Option Value} {cst : Led} {o : Obj} {b : Bk} (P' : List Str → Nat → Bk → Prop)
    (hh : A.handled = none) (hl : (l, listOf vs.toArray nn) ∈ cst) (hx : StrsAre vs xs) (F : Fr h₀ env.locals s.heap m₀) (N : News h₀ env.locals s.heap ((D, o) :: cst)) (hm : m₀ fd = some (.ref D)) (hB : IsBook w o b) (hP : P' xs 0 b)
    (turn : ∀ (i : Nat) (y : Str) (t : Tok) (b : Bk) (o : Obj) (m₁ : Str → Option Value) (h : Heap) (tk : Nat) (own : Led), xs[i]? = some y → OwnOff own (((D, o) :: cst).map (·.1)) → P' xs i b → IsBook w o b → Fr h₀ env.locals h (fun z => if z = x then some (.str y t) else if z = fd then some (.ref D) else m₁ z) → News h₀ env.locals h ((D, o) :: (cst ++ own)) →
      wpAny (model prog w) A (execs body env) (InvPostG h₀ env.locals (fun m' nx => (l, listOf vs.toArray nn) ∈ nx ∧ BkJ w fd D cst (P' xs) (i + 1) m' nx) own { s with heap := h, toks := tk } Q) E { s with heap := h, toks := tk })
    (done : ∀ (b : Bk) (o : Obj) (m₁ : Str → Option Value) (h : Heap) (tk : Nat), P' xs xs.length b → IsBook w o b → Fr h₀ env.locals h (fun z => if z = fd then some (.ref D) else m₁ z) → News h₀ env.locals h ((D, o) :: cst) → Q .next { s with heap := h, toks := tk }) :
    wpAny (model prog w) A (pyIter (.ref l)) (fun it s₂ => LoopAtV prog w A h₀ env x body Q E it s₂) E s := by
  refine kdl_iter (BkJ w fd D cst (P' xs)) hh (.tail _ hl) F N ⟨hm, _, _, hP, hB, rfl⟩ ?_ ?_
  · rintro i v m₁ nx h tk own hv hoff _ ⟨hm, b, o, hP, hB, rfl⟩ F₁ N₁
    obtain ⟨y, t, rfl, hy⟩ := hx.item i v hv
    exact turn i y t b o m₁ h tk own hy hoff hP hB (fr_set hm F₁) N₁
  · rintro m₁ nx h tk ⟨hm, b, o, hP, hB, rfl⟩ F₁ N₁
    rw [hx.length] at hP
    exact done b o m₁ h tk hP hB (fr_set1 hm F₁) N₁
end
section
variable {w : World} {mean : ExcName → Option Value} {mg mb : Str → Option Value} {news : Led}


inductive PR where
  | ok (b : Bk)
  | sn
  | ul
def isRow (x : Str) : Bool := Txt.stripChars x (Str.ofString " \t\r") != Str.ofString ""
def rowStep (b : Bk) (x : Str) : PR :=
  if isRow x then (match enterR b (Txt.rstripChars x (Str.ofString "\r")) with
    | .ok b' => .ok b'
    | .direct _ => .sn
    | .sn => .sn
    | .ul => .ul) else .ok b
noncomputable def rowsF (b : Bk) : List Str → PR
  | [] => .ok b
  | x :: r => match rowStep b x with
    | .ok b' => rowsF b' r
    | .sn => .sn
    | .ul => .ul

theorem rowStep_go {b b' : Bk} {x : Str} (h : (Txt.stripChars x (Str.ofString " \t\r") != Str.ofString "") = true) (h2 : enterR b (Txt.rstripChars x (Str.ofString "\r")) = .ok b') : rowStep b x = .ok b' := by
  unfold rowStep isRow; rw [h, h2]; rfl
theorem rowStep_skip {b : Bk} {x : Str} (h : (Txt.stripChars x (Str.ofString " \t\r") != Str.ofString "") = false) : rowStep b x = .ok b := by
  unfold rowStep isRow; rw [h]; rfl
theorem rowStep_sn {b : Bk} {x : Str} (h : (Txt.stripChars x (Str.ofString " \t\r") != Str.ofString "") = true) (h2 : enterR b (Txt.rstripChars x (Str.ofString "\r")) = .sn) : rowStep b x = .sn := by
  unfold rowStep isRow; rw [h, h2]; rfl
theorem rowStep_dir {b : Bk} {x r : Str} (h : (Txt.stripChars x (Str.ofString " \t\r") != Str.ofString "") = true) (h2 : enterR b (Txt.rstripChars x (Str.ofString "\r")) = .direct r) : rowStep b x = .sn := by
  unfold rowStep isRow; rw [h, h2]; rfl
theorem rowStep_ul {b : Bk} {x : Str} (h : (Txt.stripChars x (Str.ofString " \t\r") != Str.ofString "") = true) (h2 : enterR b (Txt.rstripChars x (Str.ofString "\r")) = .ul) : rowStep b x = .ul := by
  unfold rowStep isRow; rw [h, h2]; rfl
theorem rowsF_at {i : Nat} {y : Str} : ∀ {xs : List Str} {b b' : Bk}, xs[i]? = some y → rowsF b (xs.take i) = .ok b' → rowsF b xs = (match rowStep b' y with | .ok b'' => rowsF b'' (xs.drop (i + 1)) | .sn => .sn | .ul => .ul) ∧ rowsF b (xs.take (i + 1)) = rowStep b' y := by
  induction i with
  | zero =>
    intro xs b b' h1 h2
    match xs, h1 with
    | _ :: r, rfl =>
      cases h2
      refine ⟨rfl, ?_⟩
      show (match rowStep b y with | .ok b' => rowsF b' [] | .sn => .sn | .ul => .ul) = _
      cases rowStep b y <;> rfl
  | succ i ih =>
    intro xs b b' h1 h2
    match xs, h1 with
    | a :: r, h1 =>
      rw [List.take_succ_cons, rowsF] at h2
      rw [List.take_succ_cons, rowsF, rowsF, List.drop_succ_cons]
      cases e : rowStep b a with
      | ok b1 => rw [e] at h2; exact ih (by simpa using h1) h2
      | sn => rw [e] at h2; cases h2
      | ul => rw [e] at h2; cases h2
theorem rowsF_ok {i : Nat} {y : Str} {xs : List Str} {b b' : Bk} (h1 : xs[i]? = some y) (h2 : rowsF [] (xs.take i) = .ok b) (h : rowStep b y = .ok b') : rowsF [] (xs.take (i + 1)) = .ok b' := (rowsF_at h1 h2).2.trans h
theorem rowsF_sn {i : Nat} {y : Str} {xs : List Str} {b : Bk} (h1 : xs[i]? = some y) (h2 : rowsF [] (xs.take i) = .ok b) (h : rowStep b y = .sn) : rowsF [] xs = .sn := (rowsF_at h1 h2).1.trans (by rw [h])
theorem rowsF_ul {i : Nat} {y : Str} {xs : List Str} {b : Bk} (h1 : xs[i]? = some y) (h2 : rowsF [] (xs.take i) = .ok b) (h : rowStep b y = .ul) : rowsF [] xs = .ul := (rowsF_at h1 h2).1.trans (by rw [h])
theorem putB_len (k : Int) (x : Str) (b : Bk) : (putB k x b).length ≤ b.length + 1 := by unfold putB; split <;> simp
theorem delB_len (k : Int) (b : Bk) : (delB k b).length ≤ b.length := List.length_filter_le _ _
theorem enterR_len {b b' : Bk} {x : Str} (h : enterR b x = .ok b') : b'.length ≤ b.length + 1 := by
  unfold enterR at h
  split at h
  · cases h
  · cases h
  · split at h
    · cases h; exact putB_len _ _ _
    · split at h
      · cases h; exact Nat.le_succ_of_le (delB_len _ _)
      · cases h
theorem rstrip_le (x y : Str) : (Txt.rstripChars x y).length ≤ x.length := by have := @len_rstripChars x y; exact this
theorem off_ne {cst own : Led} {D : Addr} {o : Obj} (h1 : ∀ p ∈ cst, p.1 < D) (h2 : OwnOff own (((D, o) :: cst).map (·.1))) : ∀ p ∈ cst ++ own, p.1 ≠ D := fun p hp e => by
  rcases List.mem_append.mp hp with h | h
  · exact Nat.lt_irrefl _ (e ▸ h1 p h)
  · exact h2 p h _ (.head _) e
theorem get_len {i : Nat} {y : Str} {xs : List Str} (h : xs[i]? = some y) (hxs : ∀ x ∈ xs, x.length ≤ 1000) : y.length ≤ 1000 := hxs _ (List.mem_of_getElem? h)
theorem get_lt {i : Nat} {y : Str} {xs : List Str} (h : xs[i]? = some y) : i < xs.length := (List.getElem?_eq_some_iff.mp h).1
theorem sub_own {q : Addr × Obj} {cst own : Led} : ∀ p ∈ cst, p ∈ q :: (cst ++ own) := fun _ hp => .tail _ (List.mem_append.mpr (.inl hp))
set_option maxHeartbeats 4000000 in
theorem c_program_of_rows (l : Addr) (vs : List Value) (xs : List Str) (c : Nat) (hx : StrsAre vs xs) (hlen : xs.length ≤ 60) (hxs : ∀ x ∈ xs, x.length ≤ 1000) (hl : (l, listOf vs.toArray c) ∈ news) :
    Ctr w mean mg mb 115 9 news [.ref l] (fun v nw => ∃ D o b, rowsF [] xs = .ok b ∧ v = .ref D ∧ IsBook w o b ∧ nw = (D, o) :: news ∧ ∀ p ∈ news, p.1 < D)
      (fun c => (rowsF [] xs = .sn ∧ excSN c) ∨ (rowsF [] xs = .ul ∧ ∃ t, c = .str (Str.ofString "UL") t)) := by
  intro dp un gd cn cs a ccd cl outer A₀ base h₀ L m s Q E B F X N T hk hd' hu hret hexc
  refine wpAny_call ?_
  k_dflt cell_enter
  refine (let ak := _; (?_ : wpAny _ ak _ _ _ _))
  w_top off
  k_with_none
  k_with "execs cons" => ((try k_fold); refine wpAny_execs_cons ?_; refine (let sk := _; (?_ : wpAny _ _ _ _ _ sk)))
  k_with "eval Call" => (k_here; (with_reducible show wpAny _ _ (eval (Expr.Call (Expr.Name _ _) _ [] _) _) _ _ _); k_dflt (refine Call_ ?_))
  k_with "exec Raise some none" => (k_here; (refine' raise_B ?_ ?R23.hh); (case hh => k_dflt rfl))
  k_with "call ref" => (k_here; (try refine (?_ : wpAny _ (PySem.Around.deeper _ _) _ _ _ _)); (with_reducible show wpAny _ _ (PySem.call (Value.ref 34) _ _) _ _ _); refine' c_basic ?R24.b1 ?R24.b2 ?R24.b3 ?R24.b4 ?R24.b5 ?R24.b6 ?R24.b7 ?R24.b8 ?R24.b9 ?_; (case b1 => k_asm); (case b2 => k_asm); (case b3 => k_asm); (case b4 => k_asm); (case b5 => k_asm); (case b6 => rfl); (case b7 => rfl); (case b8 => first | rfl | assumption); (case b9 => ktr_room); intro e' dx' oD' ta' h' tk' F' N' d1' d2' d3')
  k_with "RaiseB" => (refine' ⟨_, _, _, rfl, ?R25.r1, ?R25.r2, ?_⟩; (case r1 => exact (News.get (by assumption) (.head _))); (case r2 => exact (Frag.In.keeps (by assumption) (Fr.keep (by assumption))) _ _ (by k_dflt k_is)))
  k_with "leaving ref" => (k_here; first
  | (refine' leave_newB ?R26.k1 ?R26.k2 ?R26.k3 ?R26.k4 ?R26.k5 ?R26.k6 ?_; (case k1 => assumption); (case k2 => assumption); (case k3 => assumption); (case k4 => assumption); (case k5 => assumption); (case k6 => assumption); k_whole; intro h' R' U'; (try dsimp only at R' U' ⊢))
  | (refine' leave_onB ?R26.k1 ?R26.k2 ?R26.k3 ?R26.k4 ?_; (case k3 => assumption); (case k1 => assumption); (case k4 => assumption); (case k2 => assumption); k_whole; intro h' R' U'; (try dsimp only at R' U' ⊢)))
  k_with "exec For Name Name cons nil" => (k_here; (rename Fr _ _ _ _ => lF'); (with_unfolding_all refine' For_invVF lF' ?R27.k1 ?R27.k2 ?_; (case k1 => exact rfl); (case k2 => exact rfl); k_whole))
  k_with "pyIter ref" => (k_here; k_dflt (refine' bk_loop (fd := Str.ofString "found") (fun xs i b => rowsF [] (xs.take i) = .ok b ∧ b.length ≤ i) (b := []) ?R28.k1 ?R28.k2 ?R28.k3 ?R28.k4 ?R28.k5 ?R28.k6 ?R28.k7 ?R28.k8 ?_ ?_; (case k1 => exact rfl); (case k2 => k_mem); (case k3 => assumption); (case k4 => k_asm); (case k5 => k_asm); (case k6 => exact if_pos rfl); (case k7 => exact ⟨[], by assumption, by assumption⟩); (case k8 => exact ⟨rfl, Nat.le_refl _⟩)); (all_goals first | (intro i' y' t' b' o' m' h' tk' own' gi' off' jP' jB' F' N'; obtain ⟨jr', jl'⟩ := jP'; have gy' := get_len gi' (by assumption); have gl' := get_lt gi'; have ry' := rstrip_le y' (Str.ofString "\r")) | (intro b' o' m' h' tk' jP' jB' F' N'; obtain ⟨jr', jl'⟩ := jP'; rw [List.take_length] at jr')))
  k_with "call ref" => (k_here; (try refine (?_ : wpAny _ (PySem.Around.deeper _ _) _ _ _ _)); (with_reducible show wpAny _ _ (PySem.call (Value.ref 98) _ _) _ _ _); (try k_fold); refine' Ctr.use (c_enter_row _ _ _ _ _ ?R29.p1 ?R29.p2 ?R29.p3 ?R29.p4 ?R29.p5) ?R29.k1 ?R29.k2 ?R29.k3 ?R29.k4 ?R29.k5 ?R29.k6 ?R29.k7 ?R29.k8 ?_ ?_; tb_start; (case p4 => with_reducible assumption); (case p1 => omega); (case p2 => omega); (case p3 => with_reducible assumption); (case p5 => exact off_ne (by assumption) (by assumption)); (all_goals first | (intro v' nw' h' tk' F' N' q'; rcases q' with ⟨q1, b', o', q2, q3, q4⟩ | ⟨r', t', q1, q2, q4⟩ <;> subst q1 q4) | (intro e' c' g' h' tk' U' F' R' q'; rcases q' with ⟨q0, tq, q1⟩ | ⟨q0, tq, q1⟩ <;> subst q1)); (all_goals (try dsimp only)))
  k_steps
  · exact bk_end (by assumption) (by assumption) (by k_dflt rfl) (by assumption) ⟨rowsF_ok (by with_reducible assumption) (by with_reducible assumption) (rowStep_go (by with_reducible assumption) (by with_reducible assumption)), Nat.le_trans (enterR_len (by with_reducible assumption)) (by omega)⟩ (fun p hp => hp) (by assumption) (by assumption)
  · exact hexc _ _ _ _ _ (by assumption) (by assumption) (RaisedB.fewer (by assumption) sub_own) (.inl ⟨rowsF_sn (by with_reducible assumption) (by with_reducible assumption) (rowStep_dir (by with_reducible assumption) (by with_reducible assumption)), _, rfl⟩)
  · exact hexc _ _ _ _ _ (by assumption) (by assumption) (RaisedB.fewer (by assumption) sub_own) (.inl ⟨rowsF_sn (by with_reducible assumption) (by with_reducible assumption) (rowStep_sn (by with_reducible assumption) (by with_reducible assumption)), _, rfl⟩)
  · exact hexc _ _ _ _ _ (by assumption) (by assumption) (RaisedB.fewer (by assumption) sub_own) (.inr ⟨rowsF_ul (by with_reducible assumption) (by with_reducible assumption) (rowStep_ul (by with_reducible assumption) (by with_reducible assumption)), _, rfl⟩)
  · exact bk_end (by assumption) (by assumption) (by k_dflt rfl) (by assumption) ⟨rowsF_ok (by with_reducible assumption) (by with_reducible assumption) (rowStep_skip (by with_reducible assumption)), by omega⟩ (fun p hp => hp) (by assumption) (by assumption)
  · exact hret _ _ _ _ (by k_asm) (by k_asm) ⟨_, _, _, by assumption, rfl, by assumption, rfl, by assumption⟩
end
end Mine

end
section
open PySem PySem.W PyProof.Rows PySem.Calls
set_option Elab.async false
set_option linter.all false
set_option maxRecDepth 100000
set_option rowWalk.seconds 0
namespace Mine
section
variable {w : World} {mean : ExcName → Option Value} {mg mb : Str → Option Value} {news : Led}


def numF (l : List Int) : Int := l.foldl (fun a c => 10 * a + c - 48) 0
def numV (x : Str) (b e : Int) : Int := numF (((x.cps.toList.drop b.toNat).take (e - b).toNat).map (fun (c : Nat) => (c : Int)))
theorem numV_nil (x : Str) (b : Int) : (0 : Int) = numV x b b := by unfold numV; rw [Int.sub_self]; rfl
theorem fig_of {c : Str} (h1 : ¬ c.cps.toList < (Str.ofString "0").cps.toList) (h2 : ¬ (Str.ofString "9").cps.toList < c.cps.toList) : isFigS c = true := by
  unfold isFigS; rw [decide_eq_false h1, decide_eq_false h2]; rfl
theorem fig_lo {c : Str} (h1 : c.cps.toList < (Str.ofString "0").cps.toList) : isFigS c = false := by
  unfold isFigS; rw [decide_eq_true h1]; rfl
theorem fig_hi {c : Str} (h2 : (Str.ofString "9").cps.toList < c.cps.toList) : isFigS c = false := by
  unfold isFigS; rw [decide_eq_true h2]; exact Bool.and_false _
theorem numV_step {x : Str} {b e n : Int} (h0 : 0 ≤ b) (h1 : b ≤ e) (h2 : e < x.length) (hn : n = numV x b e) : 10 * n + ((Txt.item x e).cps.getD 0 0 : Nat) - 48 = numV x b (e + 1) := by
  obtain ⟨c, r, e1, _, e3⟩ := item_drop (x := x) (a := e) (by omega) h2
  rw [e3, hn]
  have k : (e + 1 - b).toNat = (e - b).toNat + 1 := by omega
  have g : (x.cps.toList.drop b.toNat)[(e - b).toNat]? = some c := by
    rw [List.getElem?_drop, show b.toNat + (e - b).toNat = e.toNat by omega]
    have := congrArg (fun l => l[0]?) e1
    rw [List.getElem?_drop] at this
    simpa using this
  unfold numV numF
  rw [k, List.take_add_one, g, List.map_append, List.foldl_append]
  rfl
theorem end_is {p : Str → Bool} {x : Str} {i n : Int} (hn : 0 ≤ n) (he : endOf p x n = endOf p x i) (hs : n < x.length → p (Txt.item x n) = false) : endOf p x i = n := he.symm.trans (endOf_stop hn hs)
def numR (x : Str) : Option (Option Int × Str) :=
  let b := endOf isBlank x 0
  let e := endOf isFigS x b
  if e = b then some (none, x) else if 5 < e - b then none else if 65529 < numV x b e then none
  else some (some (numV x b e), if e < x.length ∧ (Txt.item x e == Str.ofString " ") = true then Txt.slice x (some (e + 1)) none else Txt.slice x (some e) none)
section
variable {x : Str} {b e n : Int}
theorem numR_none (hb : endOf isBlank x 0 = b) (he : endOf isFigS x b = e) (h : e = b) : numR x = some (none, x) := by
  unfold numR
  rw [hb]
  dsimp only
  rw [he, if_pos h]
theorem numR_long (hb : endOf isBlank x 0 = b) (he : endOf isFigS x e = endOf isFigS x b) (h0 : 0 ≤ b) (h1 : b ≤ e) (h2 : e < x.length) (hf : isFigS (Txt.item x e) = true) (h : 5 ≤ e - b) : numR x = none := by
  have h3 : e + 1 ≤ endOf isFigS x b := by
    rw [← he, ← endOf_step (by omega) h2 hf]
    exact endOf_ge _ _ _
  unfold numR
  rw [hb]
  dsimp only
  rw [if_neg (by omega), if_pos (by omega)]
theorem numR_big (hb : endOf isBlank x 0 = b) (he : endOf isFigS x b = e) (hn : n = numV x b e) (h : 65529 < n) : numR x = none := by
  unfold numR
  rw [hb]
  dsimp only
  rw [he, ← hn, if_pos h]
  have : e ≠ b := by
    rintro rfl
    rw [← numV_nil] at hn
    omega
  rw [if_neg this]
  split <;> rfl
theorem numR_blank (hb : endOf isBlank x 0 = b) (he : endOf isFigS x b = e) (hn : n = numV x b e) (h5 : e - b ≤ 5) (hne : e ≠ b) (h : ¬ 65529 < n) (hl : e < x.length) (hbl : (Txt.item x e == Str.ofString " ") = true) : numR x = some (some n, Txt.slice x (some (e + 1)) none) := by
  unfold numR
  rw [hb]
  dsimp only
  rw [he, ← hn, if_neg hne, if_neg (by omega), if_neg h, if_pos ⟨hl, hbl⟩]
theorem numR_tight (hb : endOf isBlank x 0 = b) (he : endOf isFigS x b = e) (hn : n = numV x b e) (h5 : e - b ≤ 5) (hne : e ≠ b) (h : ¬ 65529 < n) (hbl : e < x.length → (Txt.item x e == Str.ofString " ") = false) : numR x = some (some n, Txt.slice x (some e) none) := by
  unfold numR
  rw [hb]
  dsimp only
  rw [he, ← hn, if_neg hne, if_neg (by omega), if_neg h, if_neg (fun q => by rw [hbl q.1] at q; cases q.2)]
end
theorem News.cut2 {h₀ h : Heap} {L : Addr} {p q : Addr × Obj} {l : Led} (N : News h₀ L h (p :: q :: l)) : News h₀ L h (p :: l) := fun r hr => N r (by rcases List.mem_cons.mp hr with e | e; exact e ▸ .head _; exact .tail _ (.tail _ e))
section
variable {prog : Program} {A : Around} {E : Value → Shared → Prop} {s : Shared} {env : Env} {h₀ : Heap} {L : Addr} {m : Str → Option Value} {Q : Flow → Shared → Prop} {st : Stmt}
def CutA (h₀ : Heap) (L : Addr) (m : Str → Option Value) (news : Led) (x : Str) (s : Shared) (f : Flow) (s' : Shared) : Prop :=
  f = .next ∧ ∃ h' tk n t, s' = { s with heap := h', toks := tk } ∧ Fr h₀ L h' (fun y => if y = Str.ofString "at" then some (.int n t) else m y) ∧ News h₀ L h' news ∧ 0 ≤ n ∧ n ≤ x.length ∧ endOf isBlank x 0 = n
theorem cutA {x : Str} {t : Tok} (hx : m (Str.ofString "row") = some (.str x t)) (F : Fr h₀ L s.heap m) (N : News h₀ L s.heap news) (walk : wpAny (model prog w) A (exec st env) (CutA h₀ L m news x s) E s)
    (rest : ∀ h' tk n t, Fr h₀ L h' (fun y => if y = Str.ofString "at" then some (.int n t) else m y) → News h₀ L h' news → 0 ≤ n → n ≤ x.length → endOf isBlank x 0 = n → Q .next { s with heap := h', toks := tk }) : wpAny (model prog w) A (exec st env) Q E s :=
  wpAny_mono walk (fun f s' ⟨e, h', tk, n, t, e2, q1, q2, q3, q4, q5⟩ => by subst e e2; exact rest h' tk n t q1 q2 q3 q4 q5) fun _ _ e => e
def CutB (h₀ : Heap) (L : Addr) (m : Str → Option Value) (news : Led) (x : Str) (b : Int) (s : Shared) (f : Flow) (s' : Shared) : Prop :=
  f = .next ∧ ∃ h' tk n t v u, s' = { s with heap := h', toks := tk } ∧ Fr h₀ L h' (fun y => if y = Str.ofString "at" then some (.int n t) else if y = Str.ofString "number" then some (.int v u) else m y) ∧ News h₀ L h' news ∧ b ≤ n ∧ n ≤ x.length ∧ n - b ≤ 5 ∧ endOf isFigS x b = n ∧ v = numV x b n
theorem cutB {x : Str} {t : Tok} {b : Int} {t2 : Tok} (hb : m (Str.ofString "begin") = some (.int b t2)) (hx : m (Str.ofString "row") = some (.str x t)) (F : Fr h₀ L s.heap m) (N : News h₀ L s.heap news) (walk : wpAny (model prog w) A (exec st env) (CutB h₀ L m news x b s) E s)
    (rest : ∀ h' tk n t v u, Fr h₀ L h' (fun y => if y = Str.ofString "at" then some (.int n t) else if y = Str.ofString "number" then some (.int v u) else m y) → News h₀ L h' news → b ≤ n → n ≤ x.length → n - b ≤ 5 → endOf isFigS x b = n → v = numV x b n → Q .next { s with heap := h', toks := tk }) : wpAny (model prog w) A (exec st env) Q E s :=
  wpAny_mono walk (fun f s' ⟨e, h', tk, n, t, v, u, e2, q1, q2, q3, q4, q5, q6, q7⟩ => by subst e e2; exact rest h' tk n t v u q1 q2 q3 q4 q5 q6 q7) fun _ _ e => e
end
set_option maxHeartbeats 4000000 in
theorem c_numbered_row (x : Str) (t : Tok) (hx : x.length ≤ 1000) : Ctr w mean mg mb 44 3 news [.str x t] (fun v nw => ∃ r, numR x = some r ∧ r.2.length ≤ x.length ∧ PairIs r news v nw) (fun c => numR x = none ∧ excSN c) := by
  intro dp un gd cn cs a ccd cl outer A₀ base h₀ L m s Q E B F X N T hk hd' hu hret hexc
  refine wpAny_call ?_
  k_dflt cell_enter
  refine (let ak := _; (?_ : wpAny _ ak _ _ _ _))
  w_top off
  k_with_none
  k_with "execs cons" => ((try k_fold); refine wpAny_execs_cons ?_; refine (let sk := _; (?_ : wpAny _ _ _ _ _ sk)))
  k_with "eval Call" => (k_here; (with_reducible show wpAny _ _ (eval (Expr.Call (Expr.Name _ _) _ [] _) _) _ _ _); k_dflt (refine Call_ ?_))
  k_with "exec Raise some none" => (k_here; (refine' raise_B ?_ ?R31.hh); (case hh => k_dflt rfl))
  k_with "call ref" => (k_here; (try refine (?_ : wpAny _ (PySem.Around.deeper _ _) _ _ _ _)); (with_reducible show wpAny _ _ (PySem.call (Value.ref 34) _ _) _ _ _); refine' c_basic ?R32.b1 ?R32.b2 ?R32.b3 ?R32.b4 ?R32.b5 ?R32.b6 ?R32.b7 ?R32.b8 ?R32.b9 ?_; (case b1 => k_asm); (case b2 => k_asm); (case b3 => k_asm); (case b4 => k_asm); (case b5 => k_asm); (case b6 => rfl); (case b7 => rfl); (case b8 => first | rfl | assumption); (case b9 => ktr_room); intro e' dx' oD' ta' h' tk' F' N' d1' d2' d3')
  k_with "RaiseB" => (refine' ⟨_, _, _, rfl, ?R33.r1, ?R33.r2, ?_⟩; (case r1 => exact (News.get (by assumption) (.head _))); (case r2 => exact (Frag.In.keeps (by assumption) (Fr.keep (by assumption))) _ _ (by k_dflt k_is)))
  k_with "leaving ref" => (k_here; first
  | (refine' leave_newB ?R34.k1 ?R34.k2 ?R34.k3 ?R34.k4 ?R34.k5 ?R34.k6 ?_; (case k1 => assumption); (case k2 => assumption); (case k3 => assumption); (case k4 => assumption); (case k5 => assumption); (case k6 => assumption); k_whole; intro h' R' U'; (try dsimp only at R' U' ⊢))
  | (refine' leave_onB ?R34.k1 ?R34.k2 ?R34.k3 ?R34.k4 ?_; (case k3 => assumption); (case k1 => assumption); (case k4 => assumption); (case k2 => assumption); k_whole; intro h' R' U'; (try dsimp only at R' U' ⊢)))
  k_with "setItem ref int" => (k_here; refine' bk_set ?R35.B ?R35.F ?R35.N ?R35.U ?R35.z ?_; (case F => k_asm); (case N => k_asm); (case U => k_updF); (case B => assumption); (case z => omega); intro h' o' F' N' B')
  k_with "exec While" => (k_here; k_dflt (refine' cutA ?R36.k1 ?R36.k2 ?R36.k3 ?_ ?_; (case k2 => k_asm); (case k3 => k_asm); (case k1 => exact rfl)); (all_goals first | (intro h' tk' n' t' F' N' g1' g2' g3') | k_extra "the While"))
  k_with "exec While" => (k_here; k_dflt (refine' cutB ?R37.k0 ?R37.k1 ?R37.k2 ?R37.k3 ?_ ?_; (case k2 => k_asm); (case k3 => k_asm); (case k0 => exact rfl); (case k1 => exact rfl)); (all_goals first | (intro h' tk' n' t' v' u' F' N' g1' g2' g3' g4' g5') | k_extra "the While"))
  k_with "the While" => first
    | k_while_given ["row", "begin"] (fun row b _ at' number => b ≤ at' ∧ at' ≤ row.length ∧ at' - b ≤ 5 ∧ endOf isFigS row at' = endOf isFigS row b ∧ number = numV row b at') (fun row b _ at' number => row.length - at'.toNat) "at" "number"
    | k_while_given ["row", "at!"] (fun row a0 _ at' => 0 ≤ at' ∧ at' ≤ row.length ∧ endOf isBlank row at' = endOf isBlank row a0) (fun row a0 _ at' => row.length - at'.toNat) "at"
  k_with "state" => first | exact ⟨by omega, by omega, rfl⟩ | exact ⟨by omega, by omega, (endOf_step (by omega) (by with_reducible assumption) (by (show (_ == _) = true); with_reducible assumption)).trans (by with_reducible assumption)⟩ | exact ⟨by omega, by omega, by omega, rfl, numV_nil _ _⟩ | refine ⟨by omega, by omega, by omega, (endOf_step (by omega) (by with_reducible assumption) (fig_of (by with_reducible assumption) (by with_reducible assumption))).trans (by with_reducible assumption), numV_step (by omega) (by omega) (by omega) (by with_reducible assumption)⟩
  k_steps
  · exact ⟨rfl, _, _, _, _, rfl, (by k_dflt assumption), by assumption, by omega, by omega, end_is (by omega) (by with_reducible assumption) fun h => by (show (_ == _) = false); with_reducible assumption⟩
  · exact ⟨rfl, _, _, _, _, rfl, (by k_dflt assumption), by assumption, by omega, by omega, end_is (by omega) (by with_reducible assumption) fun h => by omega⟩
  · exact ⟨rfl, _, _, _, _, _, _, rfl, (by k_dflt assumption), by assumption, by omega, by omega, by omega, end_is (by omega) (by with_reducible assumption) (fun h => fig_lo (by with_reducible assumption)), by with_reducible assumption⟩
  · exact ⟨rfl, _, _, _, _, _, _, rfl, (by k_dflt assumption), by assumption, by omega, by omega, by omega, end_is (by omega) (by with_reducible assumption) (fun h => fig_hi (by with_reducible assumption)), by with_reducible assumption⟩
  · exact hexc _ _ _ _ _ (by assumption) (by assumption) (RaisedB.fewer (by assumption) (fun p hp => .tail _ hp)) ⟨numR_long (by with_reducible assumption) (by with_reducible assumption) (by omega) (by omega) (by omega) (fig_of (by with_reducible assumption) (by with_reducible assumption)) (by omega), _, rfl⟩
  · exact ⟨rfl, _, _, _, _, _, _, rfl, (by k_dflt assumption), by assumption, by omega, by omega, by omega, end_is (by omega) (by with_reducible assumption) (fun h => by omega), by with_reducible assumption⟩
  · rename (_ ∧ AllLt _ _) => lq
    exact hret _ _ _ _ (by k_asm) (News.cut2 (by with_reducible assumption)) ⟨_, numR_none (by with_reducible assumption) (by with_reducible assumption) (by with_reducible assumption), Nat.le_refl _, _, _, _, rfl, rfl, tb_ltOf lq.2, rfl⟩
  · exact hexc _ _ _ _ _ (by assumption) (by assumption) (RaisedB.fewer (by assumption) (fun p hp => .tail _ hp)) ⟨numR_big (by with_reducible assumption) (by with_reducible assumption) (by with_reducible assumption) (by with_reducible assumption), _, rfl⟩
  · rename (_ ∧ AllLt _ _) => lq
    exact hret _ _ _ _ (by k_asm) (News.cut2 (by with_reducible assumption)) ⟨_, numR_blank (by with_reducible assumption) (by with_reducible assumption) (by with_reducible assumption) (by with_reducible assumption) (by with_reducible assumption) (by with_reducible assumption) (by with_reducible assumption) (by with_reducible assumption), by with_reducible assumption, _, _, _, rfl, rfl, tb_ltOf lq.2, ⟨_, rfl⟩⟩
  · rename (_ ∧ AllLt _ _) => lq
    exact hret _ _ _ _ (by k_asm) (News.cut2 (by with_reducible assumption)) ⟨_, numR_tight (by with_reducible assumption) (by with_reducible assumption) (by with_reducible assumption) (by with_reducible assumption) (by with_reducible assumption) (by with_reducible assumption) (fun _ => by with_reducible assumption), by with_reducible assumption, _, _, _, rfl, rfl, tb_ltOf lq.2, ⟨_, rfl⟩⟩
  · rename (_ ∧ AllLt _ _) => lq
    exact hret _ _ _ _ (by k_asm) (News.cut2 (by with_reducible assumption)) ⟨_, numR_tight (by with_reducible assumption) (by with_reducible assumption) (by with_reducible assumption) (by with_reducible assumption) (by with_reducible assumption) (by with_reducible assumption) (fun h => absurd h (by with_reducible assumption)), by with_reducible assumption, _, _, _, rfl, rfl, tb_ltOf lq.2, ⟨_, rfl⟩⟩
end
end Mine

end
section
open PySem PySem.W PyProof.Rows PySem.Calls
set_option Elab.async false
set_option linter.all false
set_option maxRecDepth 100000
set_option rowWalk.seconds 0
namespace Mine
theorem UpdF.self {d : Addr} {o : Obj} : ∀ {l : Led} {g : Obj → Led}, UpdF d o l g → g o = l
  | _, _, .head _ => rfl
  | _, _, .tail _ h => congrArg _ (UpdF.self h)
theorem delB_none {k : Int} : ∀ {b : Bk}, lookB k b = none → delB k b = b
  | [], _ => rfl
  | p :: r, h => by
    rw [lookB] at h
    split at h
    · cases h
    · rename_i hne
      have := delB_none h
      unfold delB at this ⊢
      rw [List.filter_cons, this, if_pos (by simp [hne])]
section
variable {w : World} {A : Around} {E : Value → Shared → Prop} {s : Shared} {h₀ : Heap} {L d : Addr} {m : Str → Option Value} {news : Led} {g : Obj → Led} {o : Obj} {b : Bk} {k : Int} {u t : Tok} {x : Str}
theorem bk_popN {v : Value} {Q : Value → Shared → Prop} (hB : IsBook w o b) (F : Fr h₀ L s.heap m) (N : News h₀ L s.heap news) (U : UpdF d o news g) (hsz : b.length ≤ 1000) (hd : s.heap.get? d = some o) (lo : (d == sysModules) = false)
    (h : ∀ h' o' v tk, Fr h₀ L h' m → News h₀ L h' (g o') → IsBook w o' (delB k b) → Q v { s with heap := h', toks := tk }) :
    wpAny (model PG w) A (call (.builtin "dict.pop") [.ref d, .int k u, v]) Q E s := by
  cases e : lookB k b with
  | none => exact bk_popd hB hd lo e (h _ o _ _ F (by rw [UpdF.self U]; exact N) (by rw [delB_none e]; exact hB))
  | some x => exact bk_pop (more := [v]) hB (.inr ⟨_, rfl⟩) (PySem.F.args_dict_pop_3 _ _ _) F N U hsz e fun h' o' t' F' N' B' => h h' o' _ _ F' N' B'
theorem splitT {y : Str} {n : Nat} {Q : Value → Shared → Prop} (hF : Fr h₀ L s.heap m) (hN : News h₀ L s.heap news) (hy : (y.length == 0) = false) (hx : x.length ≤ n)
    (h : ∀ D vs h' k, StrsAre vs (Txt.split x y) → Fr h₀ L h' m → News h₀ L h' ((D, listOf vs.toArray 0) :: news) → (∀ p ∈ news, p.1 < D) → (Txt.split x y).length ≤ n + 2 → (∀ z ∈ Txt.split x y, z.length ≤ n) → Q (.ref D) { s with heap := h', toks := k }) (hsz : x.length + 2 ≤ sizeLine) :
    wpAny (model PG w) A (call (.builtin "str.split") [.str x t, .str y u]) Q E s :=
  KSpl.split1 hF hN hy (fun D l h' k e a F' N' l1 => h D _ h' k (by rw [← e]; exact a) F' N' l1 (Nat.le_trans (split_le x y) (by omega)) fun z hz => Nat.le_trans (part_short hz) hx) hsz
theorem News.swap {h : Heap} {p q : Addr × Obj} {l : Led} (N : News h₀ L h (p :: q :: l)) : News h₀ L h (q :: p :: l) := fun r hr => N r (by
  rcases List.mem_cons.mp hr with e | e
  · exact e ▸ .tail _ (.head _)
  · rcases List.mem_cons.mp e with e | e
    · exact e ▸ .head _
    · exact .tail _ (.tail _ e))
theorem News.cut1 {h : Heap} {p : Addr × Obj} {l : Led} (N : News h₀ L h (p :: l)) : News h₀ L h l := fun r hr => N r (.tail _ hr)
end
theorem off_ne2 {cst own : Led} {D : Addr} {o : Obj} (h1 : ∀ p ∈ cst, p.1 ≠ D) (h2 : OwnOff own (((D, o) :: cst).map (·.1))) : ∀ p ∈ cst ++ own, p.1 ≠ D := fun p hp e => by
  rcases List.mem_append.mp hp with h | h
  · exact h1 p h e
  · exact h2 p h _ (.head _) e
theorem cst_ne {news : Led} {D Ds : Addr} {os : Obj} (h1 : D < Ds ∧ AllLt Ds news) (h2 : ∀ p ∈ news, p.1 < D) : ∀ p ∈ (Ds, os) :: news, p.1 ≠ D := fun p hp e => by
  rcases List.mem_cons.mp hp with h | h
  · subst h; exact Nat.lt_irrefl D (by have := h1.1; rw [← e] at this ⊢; exact this)
  · exact Nat.lt_irrefl _ (e ▸ h2 p h)
theorem split_text {l : List (Str × Tok)} {x y : Str} {n : Nat} (e : l.map (·.1) = Txt.split x y) (hx : x.length ≤ n) : (l.map (·.1)).length ≤ n + 2 ∧ ∀ z ∈ l.map (·.1), z.length ≤ n := by
  rw [e]
  exact ⟨Nat.le_trans (split_le x y) (by omega), fun z hz => Nat.le_trans (part_short hz) hx⟩
theorem get_lenN {i n : Nat} {y : Str} {xs : List Str} (h : xs[i]? = some y) (hxs : ∀ x ∈ xs, x.length ≤ n) : y.length ≤ n := hxs _ (List.mem_of_getElem? h)
noncomputable def foldR (f : Bk → Str → PR) (b : Bk) : List Str → PR
  | [] => .ok b
  | x :: r => match f b x with
    | .ok b' => foldR f b' r
    | .sn => .sn
    | .ul => .ul
theorem foldR_at {f : Bk → Str → PR} {i : Nat} {y : Str} : ∀ {xs : List Str} {b b' : Bk}, xs[i]? = some y → foldR f b (xs.take i) = .ok b' → foldR f b xs = (match f b' y with | .ok b'' => foldR f b'' (xs.drop (i + 1)) | .sn => .sn | .ul => .ul) ∧ foldR f b (xs.take (i + 1)) = f b' y := by
  induction i with
  | zero =>
    intro xs b b' h1 h2
    match xs, h1 with
    | _ :: r, rfl =>
      cases h2
      refine ⟨rfl, ?_⟩
      show (match f b y with | .ok b' => foldR f b' [] | .sn => .sn | .ul => .ul) = _
      cases f b y <;> rfl
  | succ i ih =>
    intro xs b b' h1 h2
    match xs, h1 with
    | a :: r, h1 =>
      rw [List.take_succ_cons, foldR] at h2
      rw [List.take_succ_cons, foldR, foldR, List.drop_succ_cons]
      cases e : f b a with
      | ok b1 => rw [e] at h2; exact ih (by simpa using h1) h2
      | sn => rw [e] at h2; cases h2
      | ul => rw [e] at h2; cases h2
theorem foldR_ok {f : Bk → Str → PR} {i : Nat} {y : Str} {xs : List Str} {b b' : Bk} (h1 : xs[i]? = some y) (h2 : foldR f [] (xs.take i) = .ok b) (h : f b y = .ok b') : foldR f [] (xs.take (i + 1)) = .ok b' := (foldR_at h1 h2).2.trans h
theorem foldR_sn {f : Bk → Str → PR} {i : Nat} {y : Str} {xs : List Str} {b : Bk} (h1 : xs[i]? = some y) (h2 : foldR f [] (xs.take i) = .ok b) (h : f b y = .sn) : foldR f [] xs = .sn := (foldR_at h1 h2).1.trans (by rw [h])
def loadStep (b : Bk) (x : Str) : PR :=
  if (Txt.stripChars (Txt.rstripChars x (Str.ofString "\r")) (Str.ofString " ") == Str.ofString "") = true then .ok b
  else match numR (Txt.rstripChars x (Str.ofString "\r")) with
    | none => .sn
    | some (none, _) => .sn
    | some (some n, r) => if (Txt.stripChars r (Str.ofString " ") == Str.ofString "") = true then .ok (delB n b) else .ok (putB n r b)
section
variable {b : Bk} {x r : Str} {n : Int}
theorem loadStep_skip (h : (Txt.stripChars (Txt.rstripChars x (Str.ofString "\r")) (Str.ofString " ") == Str.ofString "") = true) : loadStep b x = .ok b := if_pos h
theorem loadStep_long (h : (Txt.stripChars (Txt.rstripChars x (Str.ofString "\r")) (Str.ofString " ") == Str.ofString "") = false) (h2 : numR (Txt.rstripChars x (Str.ofString "\r")) = none) : loadStep b x = .sn := by
  unfold loadStep; rw [if_neg (by rw [h]; decide), h2]
theorem loadStep_none (h : (Txt.stripChars (Txt.rstripChars x (Str.ofString "\r")) (Str.ofString " ") == Str.ofString "") = false) (h2 : numR (Txt.rstripChars x (Str.ofString "\r")) = some (none, r)) : loadStep b x = .sn := by
  unfold loadStep; rw [if_neg (by rw [h]; decide), h2]
theorem loadStep_del (h : (Txt.stripChars (Txt.rstripChars x (Str.ofString "\r")) (Str.ofString " ") == Str.ofString "") = false) (h2 : numR (Txt.rstripChars x (Str.ofString "\r")) = some (some n, r)) (h3 : (Txt.stripChars r (Str.ofString " ") == Str.ofString "") = true) : loadStep b x = .ok (delB n b) := by
  unfold loadStep; rw [if_neg (by rw [h]; decide), h2]; exact if_pos h3
theorem loadStep_put (h : (Txt.stripChars (Txt.rstripChars x (Str.ofString "\r")) (Str.ofString " ") == Str.ofString "") = false) (h2 : numR (Txt.rstripChars x (Str.ofString "\r")) = some (some n, r)) (h3 : (Txt.stripChars r (Str.ofString " ") == Str.ofString "") = false) : loadStep b x = .ok (putB n r b) := by
  unfold loadStep; rw [if_neg (by rw [h]; decide), h2]; exact if_neg (by rw [h3]; decide)
end
section
variable {w : World} {mean : ExcName → Option Value} {mg mb : Str → Option Value} {news : Led}


set_option maxHeartbeats 4000000 in
theorem c_loaded_program (x : Str) (t : Tok) (hx : x.length ≤ 600) :
    Ctr w mean mg mb 56 5 news [.str x t] (fun v nw => ∃ D o b, foldR loadStep [] (Txt.split x (Str.ofString "\n")) = .ok b ∧ v = .ref D ∧ IsBook w o b ∧ nw = (D, o) :: news ∧ ∀ p ∈ news, p.1 < D)
      (fun c => foldR loadStep [] (Txt.split x (Str.ofString "\n")) = .sn ∧ excSN c) := by
  intro dp un gd cn cs a ccd cl outer A₀ base h₀ L m s Q E B F X N T hk hd' hu hret hexc
  refine wpAny_call ?_
  k_dflt cell_enter
  refine (let ak := _; (?_ : wpAny _ ak _ _ _ _))
  w_top off
  k_with_none
  k_with "execs cons" => ((try k_fold); refine wpAny_execs_cons ?_; refine (let sk := _; (?_ : wpAny _ _ _ _ _ sk)))
  k_with "eval Call" => (k_here; (with_reducible show wpAny _ _ (eval (Expr.Call (Expr.Name _ _) _ [] _) _) _ _ _); k_dflt (refine Call_ ?_))
  k_with "exec Raise some none" => (k_here; (refine' raise_B ?_ ?R39.hh); (case hh => k_dflt rfl))
  k_with "call ref" => (k_here; (try refine (?_ : wpAny _ (PySem.Around.deeper _ _) _ _ _ _)); (with_reducible show wpAny _ _ (PySem.call (Value.ref 34) _ _) _ _ _); refine' c_basic ?R40.b1 ?R40.b2 ?R40.b3 ?R40.b4 ?R40.b5 ?R40.b6 ?R40.b7 ?R40.b8 ?R40.b9 ?_; (case b1 => k_asm); (case b2 => k_asm); (case b3 => k_asm); (case b4 => k_asm); (case b5 => k_asm); (case b6 => rfl); (case b7 => rfl); (case b8 => first | rfl | assumption); (case b9 => ktr_room); intro e' dx' oD' ta' h' tk' F' N' d1' d2' d3')
  k_with "RaiseB" => (refine' ⟨_, _, _, rfl, ?R41.r1, ?R41.r2, ?_⟩; (case r1 => exact (News.get (by assumption) (.head _))); (case r2 => exact (Frag.In.keeps (by assumption) (Fr.keep (by assumption))) _ _ (by k_dflt k_is)))
  k_with "leaving ref" => (k_here; first
  | (refine' leave_newB ?R42.k1 ?R42.k2 ?R42.k3 ?R42.k4 ?R42.k5 ?R42.k6 ?_; (case k1 => assumption); (case k2 => assumption); (case k3 => assumption); (case k4 => assumption); (case k5 => assumption); (case k6 => assumption); k_whole; intro h' R' U'; (try dsimp only at R' U' ⊢))
  | (refine' leave_onB ?R42.k1 ?R42.k2 ?R42.k3 ?R42.k4 ?_; (case k3 => assumption); (case k1 => assumption); (case k4 => assumption); (case k2 => assumption); k_whole; intro h' R' U'; (try dsimp only at R' U' ⊢)))
  k_with "setItem ref int" => (k_here; refine' bk_set ?R43.B ?R43.F ?R43.N ?R43.U ?R43.z ?_; (case F => k_asm); (case N => k_asm); (case U => k_updF); (case B => with_reducible assumption); (case z => omega); intro h' o' F' N' B')
  k_with "exec For Name Name cons nil" => (k_here; (rename Fr _ _ _ _ => lF'); (with_unfolding_all refine' For_invVF lF' ?R44.k1 ?R44.k2 ?_; (case k1 => exact rfl); (case k2 => exact rfl); k_whole))
  k_with "getMethod ref" => (k_here; k_dflt (refine' getMethod_tab_any (knd := intKind _ _) (enc := PyData.int) ?R45.k1 ?R45.k2 ?_; (case k1 => exact rfl); (case k2 => exact IsBook.tab (by with_reducible assumption) (News.get (by k_asm) (by k_mem)) (by with_reducible assumption)); k_whole))
  k_with "exec For Name Call cons nil" => (k_here; (rename Fr _ _ _ _ => lF'); (with_unfolding_all refine' For_invVF lF' ?R46.k1 ?R46.k2 ?_; (case k1 => exact rfl); (case k2 => exact rfl); k_whole))
  k_with "call builtin:str.split" => (k_here; (with_reducible show wpAny _ _ (PySem.call (Value.builtin "str.split") [Value.str _ _, Value.str _ _]) _ _ _); refine' splitT ?R47.k1 ?R47.k2 ?R47.k3 ?R47.kx ?_ ?R47.k4; (case kx => with_reducible assumption); (case k1 => k_asm); (case k2 => k_asm); (case k3 => decide); (case k4 => (rw [sizeLine_eq]; omega)); intro D' l' h' k' a' F' N' l1 y1' y2'; (try k_lt l1))
  k_with "pyIter ref" => (k_here; k_dflt (refine' bk_loop (fd := Str.ofString "found") (fun xs i b => foldR loadStep [] (xs.take i) = .ok b ∧ b.length ≤ i) (b := []) ?R48.k1 ?R48.k2 ?R48.k3 ?R48.k4 ?R48.k5 ?R48.k6 ?R48.k7 ?R48.k8 ?_ ?_; (case k1 => exact rfl); (case k5 => exact News.swap (by assumption)); (case k2 => exact .head _); (case k3 => assumption); (case k4 => k_asm); (case k6 => exact if_pos rfl); (case k7 => exact ⟨[], by assumption, by assumption⟩); (case k8 => exact ⟨rfl, Nat.le_refl _⟩)); (all_goals first | (intro i' y' t' b' o' m' h' tk' own' gi' off' jP' jB' F' N'; obtain ⟨jr', jl'⟩ := jP'; have gy' := get_lenN gi' (by assumption); have gl' := get_lt gi'; have ry' := rstrip_le y' (Str.ofString "\r"); have ne' := off_ne2 (cst_ne (by with_reducible assumption) (by with_reducible assumption)) off') | (intro b' o' m' h' tk' jP' jB' F' N'; obtain ⟨jr', jl'⟩ := jP'; rw [List.take_length] at jr')))
  k_with "call ref" => (k_here; (try refine (?_ : wpAny _ (PySem.Around.deeper _ _) _ _ _ _)); (with_reducible show wpAny _ _ (PySem.call (Value.ref 44) _ _) _ _ _); (try k_fold); refine' Ctr.use (c_numbered_row _ _ ?R49.p1) ?R49.k1 ?R49.k2 ?R49.k3 ?R49.k4 ?R49.k5 ?R49.k6 ?R49.k7 ?R49.k8 ?_ ?_; (case p1 => omega); tb_start; (all_goals first | (intro v' nw' h' tk' F' N' q'; obtain ⟨⟨r1', r2'⟩, q0, ql, D', va', t', q1, q2, l1, q3⟩ := q'; subst q1 q2; (dsimp only at ql q3 N'); (try k_lt l1); rcases r1' with _ | n'; (all_goals first | subst q3 | (obtain ⟨tn', q3⟩ := q3; subst q3))) | (intro e' c' g' h' tk' U' F' R' q'; obtain ⟨q0, tq, q1⟩ := q'; subst q1)); (all_goals (try dsimp only)))
  k_with "call builtin:dict.pop" => (k_here; (with_reducible show wpAny _ _ (PySem.call (Value.builtin "dict.pop") [Value.ref _, Value.int _ _, Value.none]) _ _ _); refine' bk_popN ?R50.B ?R50.F ?R50.N ?R50.U ?R50.z ?R50.D ?R50.l ?_; (case F => k_asm); (case N => k_asm); (case U => k_updF); (case B => with_reducible assumption); (case z => omega); (case D => exact News.get (by k_asm) (by k_mem)); (case l => with_reducible assumption); intro h' o' v' tk' F' N' B')
  k_steps
  · exact bk_end (by assumption) (by k_asm) (by k_dflt rfl) (by with_reducible assumption) ⟨foldR_ok (by with_reducible assumption) (by with_reducible assumption) (loadStep_skip (by with_reducible assumption)), by omega⟩ (fun p hp => hp) (by assumption) (.head _)
  · exact hexc _ _ _ _ _ (by assumption) (by assumption) (RaisedB.fewer (by assumption) (fun p hp => .tail _ (.tail _ (List.mem_append.mpr (.inl (.tail _ hp)))))) ⟨foldR_sn (by with_reducible assumption) (by with_reducible assumption) (loadStep_none (by with_reducible assumption) (by with_reducible assumption)), _, rfl⟩
  · exact bk_end (by assumption) (by k_asm) (by k_dflt rfl) (by with_reducible assumption) ⟨foldR_ok (by with_reducible assumption) (by with_reducible assumption) (loadStep_del (by with_reducible assumption) (by with_reducible assumption) (by with_reducible assumption)), Nat.le_trans (delB_len _ _) (by omega)⟩ (fun p hp => .tail _ hp) (by assumption) (.head _)
  · exact bk_end (by assumption) (by k_asm) (by k_dflt rfl) (by with_reducible assumption) ⟨foldR_ok (by with_reducible assumption) (by with_reducible assumption) (loadStep_put (by with_reducible assumption) (by with_reducible assumption) (by with_reducible assumption)), Nat.le_trans (putB_len _ _ _) (by omega)⟩ (fun p hp => .tail _ hp) (by assumption) (.head _)
  · exact hexc _ _ _ _ _ (by assumption) (by assumption) (RaisedB.fewer (by assumption) (fun p hp => .tail _ (List.mem_append.mpr (.inl (.tail _ hp))))) ⟨foldR_sn (by with_reducible assumption) (by with_reducible assumption) (loadStep_long (by with_reducible assumption) (by with_reducible assumption)), _, rfl⟩
  · exact hret _ _ _ _ (by k_asm) (News.cut2 (by with_reducible assumption)) ⟨_, _, _, by with_reducible assumption, rfl, by with_reducible assumption, rfl, by with_reducible assumption⟩
end
end Mine

end
section
open PySem PySem.W PyProof.Rows PySem.Calls
set_option Elab.async false
set_option linter.all false
set_option maxRecDepth 100000
set_option rowWalk.seconds 0
namespace Mine
def lookG (k : Int) (b : Bk) : Str := (lookB k b).getD ⟨#[]⟩
theorem mem_hasB {k : Int} : ∀ {b : Bk}, k ∈ keysB b → lookB k b = some (lookG k b)
  | p :: r, h => by
    unfold lookG
    rw [lookB]
    by_cases e : p.1 = k
    · rw [if_pos e]; rfl
    · rw [if_neg e]
      have : k ∈ keysB r := by
        rcases List.mem_cons.mp h with q | q
        · exact absurd q.symm e
        · exact q
      exact mem_hasB this
def tolds : List Str := [Str.ofString "PRINT A", Str.ofString "GOTO 10", Str.ofString "REM A  B", Str.ofString "A=1", Str.ofString "PRINT \"X\"", Str.ofString "DATA 1, 2"]
def KeyOK (k : Int) : Prop := k = 0 ∨ k = 10 ∨ k = 20 ∨ k = 65529
def BkOK (b : Bk) : Prop := ∀ p ∈ b, KeyOK p.1 ∧ p.2 ∈ tolds
theorem tolds_len : ∀ z ∈ tolds, z.length ≤ 30 := by decide +kernel
theorem KeyOK.rng {k : Int} (h : KeyOK k) : 0 ≤ k ∧ k ≤ 65529 := by rcases h with rfl | rfl | rfl | rfl <;> decide
theorem BkOK.at {k : Int} {z : Str} : ∀ {b : Bk}, BkOK b → lookB k b = some z → KeyOK k ∧ z ∈ tolds
  | p :: r, h, e => by
    rw [lookB] at e
    split at e
    · rename_i q
      cases e
      rw [← q]
      exact h p (.head _)
    · exact BkOK.at (fun q hq => h q (.tail _ hq)) e
def lineOf (k : Int) (z : Str) : Str := Str.ofString (toString k) ++ Str.ofString " " ++ z ++ Str.ofString "\n"
theorem line_len {k : Int} {z : Str} (h0 : 0 ≤ k) (h1 : k ≤ 65529) (h2 : z.length ≤ 30) : (lineOf k z).length ≤ 65600 := by
  have := len_str_of_int k
  unfold lineOf
  rw [Str.length_append, Str.length_append, Str.length_append]
  have e1 : (Str.ofString " ").length = 1 := rfl
  have e2 : (Str.ofString "\n").length = 1 := rfl
  omega
theorem sum_le {B : Nat} : ∀ {l : List Nat}, (∀ x ∈ l, x ≤ B) → l.sum ≤ l.length * B
  | [], _ => by simp
  | a :: r, h => by
    have := sum_le fun x hx => h x (.tail _ hx)
    have := h a (.head _)
    rw [List.sum_cons, List.length_cons, Nat.succ_mul]
    omega
theorem sort_mem {k : Int} {l : List Int} : k ∈ sortI l ↔ k ∈ l := List.mem_mergeSort
theorem sort_len (l : List Int) : (sortI l).length = l.length := List.length_mergeSort _
theorem keys_len (b : Bk) : (keysB b).length = b.length := by simp [keysB]
section
variable {prog : Program} {w : World} {A : Around} {E : Value → Shared → Prop} {s : Shared} {env : Env} {h₀ : Heap} {L : Addr} {m : Str → Option Value} {news : Led} {elt : Expr} {x : Str} {scope : Scope} {cl : List (Str × Addr)}
theorem lines_weight {b : Bk} (hb : b.length ≤ 10) (hok : BkOK b) : ((((sortI (keysB b)).map fun k => lineOf k (lookG k b))).map (·.length)).sum + (((sortI (keysB b)).map fun k => lineOf k (lookG k b))).length ≤ 1048576 := by
  have h1 : (((sortI (keysB b)).map fun k => lineOf k (lookG k b))).length ≤ 10 := by rw [List.length_map, sort_len, keys_len]; exact hb
  have h2 := sum_le (B := 65600) (l := (((sortI (keysB b)).map fun k => lineOf k (lookG k b))).map (·.length)) (by
    intro n hn
    obtain ⟨y, hy, rfl⟩ := List.mem_map.mp hn
    obtain ⟨k, hk, rfl⟩ := List.mem_map.mp hy
    have q := hok.at (mem_hasB (sort_mem.mp hk))
    exact line_len q.1.rng.1 q.1.rng.2 (tolds_len _ q.2))
  rw [List.length_map] at h2
  have := Nat.mul_le_mul_right 65600 h1
  omega
def bookText (b : Bk) : Str := Txt.join (Str.ofString "") ((sortI (keysB b)).map fun k => lineOf k (lookG k b))
def StrEnd (h₀ : Heap) (L : Addr) (m : Str → Option Value) (all : Led) (s : Shared) (r : Str) (y : Value) (s₂ : Shared) : Prop := ∃ h' tk t, s₂ = { s with heap := h', toks := tk } ∧ y = .str r t ∧ Fr h₀ L h' m ∧ News h₀ L h' all
theorem comp_strs {ax : Addr} {vs : List Value} {ns : List Int} {c : Nat} {Q : Value → Shared → Prop} (g : Int → Str) (hh : A.handled = none) (F : Fr h₀ L s.heap m) (N : News h₀ L s.heap news) (hm : (ax, listOf vs.toArray c) ∈ news) (hi : IntsAre vs ns) (hsz : ns.length ≤ 1000)
    (turn : ∀ k t I oI C oC D m₂ ys h tk (E' : Value → Shared → Prop), k ∈ ns → LCg.NsObj oC m₂ → m₂ x = some (.int k t) → Fr h₀ L h m → News h₀ L h ((I, oI) :: (C, oC) :: (D, LCg.lst ys) :: news) → LCg.Off3 I C D news → ((@Ne Nat I C) ∧ (@Ne Nat I D) ∧ (@Ne Nat C D)) →
      wpAny (model prog w) A (eval elt (compEnvC scope cl C env)) (StrEnd h₀ L m ((I, oI) :: (C, oC) :: (D, LCg.lst ys) :: news) { s with heap := h, toks := tk } (g k)) E' { s with heap := h, toks := tk })
    (done : ∀ D vs' h tk, StrsAre vs' (ns.map g) → Fr h₀ L h m → News h₀ L h ((D, LCg.lst vs') :: news) → LCg.Off1 D news → Q (.ref D) { s with heap := h, toks := tk }) :
    LCg.CompSrc prog w A h₀ L m env elt x scope cl (fun s₂ => LCg.FinE h₀ L m s₂ Q) (.ref ax) s := by
  refine LCg.CompSrc.ledger hh F N hm (by rw [List.size_toArray, hi.length, sizeLine_eq]; omega) fun hp => ?_
  have key : ∀ (j i : Nat) (ys : List Value), i + j = ns.length → StrsAre ys ((ns.take i).map g) → LCg.CompRest prog w A h₀ L m env elt x scope cl { s with heap := hp } (LCg.SrcAt h₀ ax vs.toArray) (fun i v => vs.toArray[i]? = some v) (LCg.FinE h₀ L m { s with heap := hp } Q) j i ys news := by
    intro j
    induction j with
    | zero =>
      intro i ys hi' hy
      have e : i = ns.length := by omega
      subst e
      rw [List.take_length] at hy
      refine LCg.CompRest.zero ?_
      intro D h tk F' N' off
      exact done D ys h tk hy F' N' off
    | succ j ih =>
      intro i ys hi' hy
      refine LCg.CompRest.succ ?_
      intro v I oI C oC D m₂ h tk E' hv hC hx F N off ne
      obtain ⟨k, t, hk, e⟩ := IntsAre.at hi i v (by simpa using hv)
      subst hk
      refine wpAny_mono (turn k t I oI C oC D m₂ ys h tk E' (List.mem_of_getElem? e) hC hx F N off ne) (fun y s₂ hq => ?_) fun _ _ e => e
      obtain ⟨h', tk', t', e', hy', F', N'⟩ := hq
      subst e' hy'
      refine ⟨h', tk', news, rfl, F', N', off, .inr ⟨_, hm, rfl, _, rfl⟩, ?_⟩
      refine ih (i + 1) _ (by omega) ?_
      rw [List.take_add_one, e]
      simpa using kct_snoc hy
  rw [show vs.toArray.size = ns.length by rw [List.size_toArray, hi.length]]
  exact key ns.length 0 [] (by omega) (by simp only [List.take_zero, List.map_nil]; exact .nil)
theorem comp_book {o : Obj} {b : Bk} {ax : Addr} {vs : List Value} {c : Nat} {Q : Value → Shared → Prop} (f : Int → Str → Str) (hB : IsBook w o b) (hh : A.handled = none) (F : Fr h₀ L s.heap m) (N : News h₀ L s.heap news) (hm : (ax, listOf vs.toArray c) ∈ news) (hi : IntsAre vs (sortI (keysB b))) (hsz : b.length ≤ 1000) (hok : BkOK b)
    (turn : ∀ k t I oI C oC D m₂ ys h tk (E' : Value → Shared → Prop), k ∈ sortI (keysB b) → lookB k b = some (lookG k b) → KeyOK k → 0 ≤ k → k ≤ 65529 → (lookG k b).length ≤ 30 → LCg.NsObj oC m₂ → m₂ x = some (.int k t) → Fr h₀ L h m → News h₀ L h ((I, oI) :: (C, oC) :: (D, LCg.lst ys) :: news) → LCg.Off3 I C D news → ((@Ne Nat I C) ∧ (@Ne Nat I D) ∧ (@Ne Nat C D)) →
      wpAny (model prog w) A (eval elt (compEnvC scope cl C env)) (StrEnd h₀ L m ((I, oI) :: (C, oC) :: (D, LCg.lst ys) :: news) { s with heap := h, toks := tk } (f k (lookG k b))) E' { s with heap := h, toks := tk })
    (done : ∀ D vs' h tk, StrsAre vs' ((sortI (keysB b)).map fun k => f k (lookG k b)) → Fr h₀ L h m → News h₀ L h ((D, LCg.lst vs') :: news) → LCg.Off1 D news → Q (.ref D) { s with heap := h, toks := tk }) :
    LCg.CompSrc prog w A h₀ L m env elt x scope cl (fun s₂ => LCg.FinE h₀ L m s₂ Q) (.ref ax) s :=
  comp_strs (fun k => f k (lookG k b)) hh F N hm hi (by rw [sort_len, keys_len]; exact hsz) (fun k t I oI C oC D m₂ ys h tk E' hk => turn k t I oI C oC D m₂ ys h tk E' hk (mem_hasB (sort_mem.mp hk)) (hok.at (mem_hasB (sort_mem.mp hk))).1 (hok.at (mem_hasB (sort_mem.mp hk))).1.rng.1 (hok.at (mem_hasB (sort_mem.mp hk))).1.rng.2 (tolds_len _ (hok.at (mem_hasB (sort_mem.mp hk))).2)) done
end
section
variable {w : World} {mean : ExcName → Option Value} {mg mb : Str → Option Value} {news : Led}



set_option maxHeartbeats 4000000 in
theorem c_saved_text (d : Addr) (o : Obj) (b : Bk) (hb : b.length ≤ 10) (hm : (d, o) ∈ news) (lo : (d == sysModules) = false) (hB : IsBook w o b) (hok : BkOK b) :
    Ctr w mean mg mb 49 3 news [.ref d] (fun v nw => (∃ t, v = .str (bookText b) t) ∧ news = nw) NoExc := by
  intro dp un gd cn cs a ccd cl outer A₀ base h₀ L m s Q E B F X N T hk hd' hu hret hexc
  refine wpAny_call ?_
  k_dflt (refine' code_defC ?k1 ?k2 ?k3 ?k4 ?k5 ?kA ?kF ?kK ?k6 ?k7 ?k8 ?k9 ?kB ?kD ?_ ?c2 ?c3 ?c4; (case kA => exact rfl); (case kF => exact rfl); (case kK => assumption); (case k1 => k_asm); (case k2 => k_asm); (case k3 => k_asm); (case k4 => k_asm); (case k5 => k_asm); (case k6 => k_is); (case k7 => k_is); (case k8 => ktr_room); (case k9 => exact BindsTo.of_eq rfl); (case kB => exact rfl); (case kD => decide +kernel); (case c2 => exact rfl); (case c3 => exact rfl); (case c4 => exact rfl); k_whole; intro g' L' h' tk' cells' FG' F' N' Y' B' X' T' l1; (try k_lt l1); k_cells Y'; (try simp only [List.cons_append, List.nil_append] at N'); (try dsimp only); (try k_lift B'); (try k_fold))
  w_top off
  k_with_none
  k_with "execs cons" => ((try k_fold); refine wpAny_execs_cons ?_; refine (let sk := _; (?_ : wpAny _ _ _ _ _ sk)))
  k_with "eval Call" => (k_here; (with_reducible show wpAny _ _ (eval (Expr.Call (Expr.Name _ _) _ [] _) _) _ _ _); k_dflt (refine Call_ ?_))
  k_with "exec Raise some none" => (k_here; (refine' raise_B ?_ ?R52.hh); (case hh => k_dflt rfl))
  k_with "call ref" => (k_here; (try refine (?_ : wpAny _ (PySem.Around.deeper _ _) _ _ _ _)); (with_reducible show wpAny _ _ (PySem.call (Value.ref 34) _ _) _ _ _); refine' c_basic ?R53.b1 ?R53.b2 ?R53.b3 ?R53.b4 ?R53.b5 ?R53.b6 ?R53.b7 ?R53.b8 ?R53.b9 ?_; (case b1 => k_asm); (case b2 => k_asm); (case b3 => k_asm); (case b4 => k_asm); (case b5 => k_asm); (case b6 => rfl); (case b7 => rfl); (case b8 => first | rfl | assumption); (case b9 => ktr_room); intro e' dx' oD' ta' h' tk' F' N' d1' d2' d3')
  k_with "RaiseB" => (refine' ⟨_, _, _, rfl, ?R54.r1, ?R54.r2, ?_⟩; (case r1 => exact (News.get (by assumption) (.head _))); (case r2 => exact (Frag.In.keeps (by assumption) (Fr.keep (by assumption))) _ _ (by k_dflt k_is)))
  k_with "leaving ref" => (k_here; first
  | (refine' leave_newB ?R55.k1 ?R55.k2 ?R55.k3 ?R55.k4 ?R55.k5 ?R55.k6 ?_; (case k1 => assumption); (case k2 => assumption); (case k3 => assumption); (case k4 => assumption); (case k5 => assumption); (case k6 => assumption); k_whole; intro h' R' U'; (try dsimp only at R' U' ⊢))
  | (refine' leave_onB ?R55.k1 ?R55.k2 ?R55.k3 ?R55.k4 ?_; (case k3 => assumption); (case k1 => assumption); (case k4 => assumption); (case k2 => assumption); k_whole; intro h' R' U'; (try dsimp only at R' U' ⊢)))
  k_with "setItem ref int" => (k_here; refine' bk_set ?R56.B ?R56.F ?R56.N ?R56.U ?R56.z ?_; (case F => k_asm); (case N => k_asm); (case U => k_updF); (case B => with_reducible assumption); (case z => omega); intro h' o' F' N' B')
  k_with "StrEnd" => (k_dflt (exact ⟨_, _, _, rfl, rfl, by k_asm, by k_asm⟩))
  k_with "subscriptTail Name Name ref int" => (k_here; k_dflt (refine' bk_get ?R58.B ?R58.D ?R58.l ?R58.hk ?_ ?R58.a ?R58.b; (case a => with_unfolding_all rfl); (case b => with_unfolding_all exact fun _ => rfl); (case hk => with_reducible assumption); (case B => with_reducible assumption); (case D => exact News.get (by k_asm) (by repeat (first | with_reducible assumption | apply List.mem_cons_of_mem))); (case l => with_reducible assumption)); intro t')
  k_with "call builtin:str.join" => (k_here; k_dflt (refine' join_listW ?R59.hl ?R59.hi ?R59.hs ?R59.hw ?_; (case hl => exact News.isList (by k_asm) (by first | k_mem | exact .head _)); (case hi => assumption); (case hs => decide); (case hw => exact lines_weight (by with_reducible assumption) (by with_reducible assumption))); intro t' k')
  k_with "CompSrc" => (k_here; k_dflt (refine' comp_book lineOf ?R60.B ?R60.hh ?R60.F ?R60.N ?R60.M ?R60.I ?R60.z ?R60.ok ?_ ?_; (case ok => with_reducible assumption); (case hh => exact rfl); (case I => with_reducible assumption); (case B => with_reducible assumption); (case F => k_asm); (case N => k_asm); (case M => k_mem); (case z => omega)); (all_goals first | (intro k' t' I' oI' C' oC' D' m' ys' h' tk' E' hk' hb' ko' ge' le' ln' hC' hx' F' N' off' ne'; (try (simp only [LCg.Off3, and_true] at off'))) | (intro D' vs' h' tk' S' F' N' off'; (try (simp only [LCg.Off1, and_true] at off')))))
  k_with "call builtin:sorted" => (k_here; (with_reducible show wpAny _ _ (PySem.call (Value.builtin "sorted") [Value.ref _]) _ _ _); k_dflt (refine' bk_sorted ?R61.B ?R61.hh ?R61.F ?R61.N ?R61.M ?R61.l ?R61.z ?_; (case F => k_asm); (case N => k_asm); (case hh => exact rfl); (case B => with_reducible assumption); (case M => first | k_mem | exact List.mem_cons_of_mem _ (by with_reducible assumption) | exact List.mem_cons_of_mem _ (List.mem_cons_of_mem _ (by with_reducible assumption))); (case l => with_reducible assumption); (case z => omega)); intro D' vs' c' h' tk' F' N' l1 i'; (try k_lt l1))
  k_with "eval ListComp" => (k_here; k_dflt (refine LCg.ListComp_U (F₀ := by k_asm) (by with_unfolding_all rfl) (by decide) (by rfl) (by decide) (by rfl) ?_))
  k_steps
  · exact hret _ _ _ _ (by k_asm) (News.cut1 (News.cut1 (News.cut1 (by with_reducible assumption)))) ⟨⟨_, rfl⟩, rfl⟩
end
end Mine

end
section
open PySem PySem.W PyProof.Rows PySem.Calls
set_option Elab.async false
set_option linter.all false
set_option maxRecDepth 100000
set_option rowWalk.seconds 0
namespace Mine
theorem ints_snoc {y : Int} {t : Tok} : ∀ {vs : List Value} {ys : List Int}, IntsAre vs ys → IntsAre (vs ++ [.int y t]) (ys ++ [y])
  | _, _, .nil => .cons y t .nil
  | _, _, .cons z u r => .cons z u (ints_snoc r)
section
variable {prog : Program} {w : World} {A : Around} {E : Value → Shared → Prop} {s : Shared} {env : Env} {h₀ : Heap} {L : Addr} {m : Str → Option Value} {news : Led} {ct elt : Expr} {x : Str} {scope : Scope} {cl : List (Str × Addr)}
def IntEnd (h₀ : Heap) (L : Addr) (m : Str → Option Value) (all : Led) (s : Shared) (r : Int) (y : Value) (s₂ : Shared) : Prop := ∃ h' tk t, s₂ = { s with heap := h', toks := tk } ∧ y = .int r t ∧ Fr h₀ L h' m ∧ News h₀ L h' all
def rowOf (k : Int) (z : Str) : Str := Str.ofString (toString k) ++ Str.ofString " " ++ z
def NoWay : Prop := False
theorem comp_intsT {ax : Addr} {vs : List Value} {ns : List Int} {c : Nat} {Q : Value → Shared → Prop} (hh : A.handled = none) (F : Fr h₀ L s.heap m) (N : News h₀ L s.heap news) (hm : (ax, listOf vs.toArray c) ∈ news) (hi : IntsAre vs ns) (hsz : ns.length ≤ 1000) (hr : ∀ k ∈ ns, 0 ≤ k ∧ k ≤ 65529)
    (turn : ∀ k t I oI C oC D m₂ ys h tk (E' : Value → Shared → Prop), k ∈ ns → 0 ≤ k → k ≤ 65529 → LCg.NsObj oC m₂ → m₂ x = some (.int k t) → Fr h₀ L h m → News h₀ L h ((I, oI) :: (C, oC) :: (D, LCg.lst ys) :: news) → LCg.Off3 I C D news → ((@Ne Nat I C) ∧ (@Ne Nat I D) ∧ (@Ne Nat C D)) →
      wpAny (model prog w) A (isTrue ct (compEnvC scope cl C env) (eval ct (compEnvC scope cl C env))) (fun ok s' => if ok = true then wpAny (model prog w) A (eval elt (compEnvC scope cl C env)) (IntEnd h₀ L m ((I, oI) :: (C, oC) :: (D, LCg.lst ys) :: news) { s with heap := h, toks := tk } k) E' s' else NoWay) E' { s with heap := h, toks := tk })
    (done : ∀ D vs' h tk, IntsAre vs' ns → Fr h₀ L h m → News h₀ L h ((D, LCg.lst vs') :: news) → LCg.Off1 D news → Q (.ref D) { s with heap := h, toks := tk }) :
    LCt.CompSrcT prog w A h₀ L m env ct elt x scope cl (fun s₂ => LCg.FinE h₀ L m s₂ Q) (.ref ax) s := by
  refine LCt.CompSrcT.ledger hh F N hm (by rw [List.size_toArray, hi.length, sizeLine_eq]; omega) fun hp => ?_
  have key : ∀ (j i : Nat) (ys : List Value), i + j = ns.length → IntsAre ys (ns.take i) → LCt.CompRestT prog w A h₀ L m env ct elt x scope cl { s with heap := hp } (LCg.SrcAt h₀ ax vs.toArray) (fun i v => vs.toArray[i]? = some v) (LCg.FinE h₀ L m { s with heap := hp } Q) j i ys news := by
    intro j
    induction j with
    | zero =>
      intro i ys hi' hy
      have e : i = ns.length := by omega
      subst e
      rw [List.take_length] at hy
      refine LCt.CompRestT.zero ?_
      intro D h tk F' N' off
      exact done D ys h tk hy F' N' off
    | succ j ih =>
      intro i ys hi' hy
      refine LCt.CompRestT.succ ?_
      intro v I oI C oC D m₂ h tk E' hv hC hx F N off ne
      obtain ⟨k, t, hv', e⟩ := IntsAre.at hi i v (by simpa using hv)
      subst hv'
      have hkm := List.mem_of_getElem? e
      refine wpAny_mono (turn k t I oI C oC D m₂ ys h tk E' hkm (hr k hkm).1 (hr k hkm).2 hC hx F N off ne) (fun ok s₂ hq => ?_) fun _ _ e => e
      cases ok with
      | false => exact (show False from (if_neg (by decide)).mp hq).elim
      | true =>
        rw [if_pos rfl] at hq ⊢
        refine wpAny_mono hq (fun y s₃ hq => ?_) fun _ _ e => e
        obtain ⟨h', tk', t', e', hy', F', N'⟩ := hq
        subst e' hy'
        refine ⟨h', tk', news, rfl, F', N', off, .inr ⟨_, hm, rfl, _, rfl⟩, ?_⟩
        refine ih (i + 1) _ (by omega) ?_
        rw [List.take_add_one, e]
        exact ints_snoc hy
  rw [show vs.toArray.size = ns.length by rw [List.size_toArray, hi.length]]
  exact key ns.length 0 [] (by omega) (by simp only [List.take_zero]; exact .nil)
theorem keys_rng {b : Bk} (hok : BkOK b) : ∀ k ∈ sortI (keysB b), 0 ≤ k ∧ k ≤ 65529 := fun k hk => (hok.at (mem_hasB (sort_mem.mp hk))).1.rng
end
section
variable {w : World} {mean : ExcName → Option Value} {mg mb : Str → Option Value} {news : Led}



set_option maxHeartbeats 4000000 in
theorem c_numbers_within (d : Addr) (o : Obj) (b : Bk) (t1 t2 : Tok) (hb : b.length ≤ 10) (hm : (d, o) ∈ news) (lo : (d == sysModules) = false) (hB : IsBook w o b) (hok : BkOK b) :
    Ctr w mean mg mb 103 2 news [.ref d, .int 0 t1, .int 65529 t2] (fun v nw => ∃ D vs c, v = .ref D ∧ IntsAre vs (sortI (keysB b)) ∧ nw = (D, listOf vs.toArray c) :: news ∧ LCg.Off1 D news) NoExc := by
  intro dp un gd cn cs a ccd cl outer A₀ base h₀ L m s Q E B F X N T hk hd' hu hret hexc
  refine wpAny_call ?_
  k_dflt (refine' code_defC ?k1 ?k2 ?k3 ?k4 ?k5 ?kA ?kF ?kK ?k6 ?k7 ?k8 ?k9 ?kB ?kD ?_ ?c2 ?c3 ?c4; (case kA => exact rfl); (case kF => exact rfl); (case kK => assumption); (case k1 => k_asm); (case k2 => k_asm); (case k3 => k_asm); (case k4 => k_asm); (case k5 => k_asm); (case k6 => k_is); (case k7 => k_is); (case k8 => ktr_room); (case k9 => exact BindsTo.of_eq rfl); (case kB => exact rfl); (case kD => decide +kernel); (case c2 => exact rfl); (case c3 => exact rfl); (case c4 => exact rfl); k_whole; intro g' L' h' tk' cells' FG' F' N' Y' B' X' T' l1; (try k_lt l1); k_cells Y'; (try simp only [List.cons_append, List.nil_append] at N'); (try dsimp only); (try k_lift B'); (try k_fold))
  w_top off
  k_with_none
  k_with "execs cons" => ((try k_fold); refine wpAny_execs_cons ?_; refine (let sk := _; (?_ : wpAny _ _ _ _ _ sk)))
  k_with "eval Call" => (k_here; (with_reducible show wpAny _ _ (eval (Expr.Call (Expr.Name _ _) _ [] _) _) _ _ _); k_dflt (refine Call_ ?_))
  k_with "exec Raise some none" => (k_here; (refine' raise_B ?_ ?R64.hh); (case hh => k_dflt rfl))
  k_with "call ref" => (k_here; (try refine (?_ : wpAny _ (PySem.Around.deeper _ _) _ _ _ _)); (with_reducible show wpAny _ _ (PySem.call (Value.ref 34) _ _) _ _ _); refine' c_basic ?R65.b1 ?R65.b2 ?R65.b3 ?R65.b4 ?R65.b5 ?R65.b6 ?R65.b7 ?R65.b8 ?R65.b9 ?_; (case b1 => k_asm); (case b2 => k_asm); (case b3 => k_asm); (case b4 => k_asm); (case b5 => k_asm); (case b6 => rfl); (case b7 => rfl); (case b8 => first | rfl | assumption); (case b9 => ktr_room); intro e' dx' oD' ta' h' tk' F' N' d1' d2' d3')
  k_with "RaiseB" => (refine' ⟨_, _, _, rfl, ?R66.r1, ?R66.r2, ?_⟩; (case r1 => exact (News.get (by assumption) (.head _))); (case r2 => exact (Frag.In.keeps (by assumption) (Fr.keep (by assumption))) _ _ (by k_dflt k_is)))
  k_with "leaving ref" => (k_here; first
  | (refine' leave_newB ?R67.k1 ?R67.k2 ?R67.k3 ?R67.k4 ?R67.k5 ?R67.k6 ?_; (case k1 => assumption); (case k2 => assumption); (case k3 => assumption); (case k4 => assumption); (case k5 => assumption); (case k6 => assumption); k_whole; intro h' R' U'; (try dsimp only at R' U' ⊢))
  | (refine' leave_onB ?R67.k1 ?R67.k2 ?R67.k3 ?R67.k4 ?_; (case k3 => assumption); (case k1 => assumption); (case k4 => assumption); (case k2 => assumption); k_whole; intro h' R' U'; (try dsimp only at R' U' ⊢)))
  k_with "setItem ref int" => (k_here; refine' bk_set ?R68.B ?R68.F ?R68.N ?R68.U ?R68.z ?_; (case F => k_asm); (case N => k_asm); (case U => k_updF); (case B => with_reducible assumption); (case z => omega); intro h' o' F' N' B')
  k_with "StrEnd" => (k_dflt (exact ⟨_, _, _, rfl, rfl, by k_asm, by k_asm⟩))
  k_with "subscriptTail Name Name ref int" => (k_here; k_dflt (refine' bk_get ?R70.B ?R70.D ?R70.l ?R70.hk ?_ ?R70.a ?R70.b; (case a => with_unfolding_all rfl); (case b => with_unfolding_all exact fun _ => rfl); (case hk => with_reducible assumption); (case B => with_reducible assumption); (case D => exact News.get (by k_asm) (by repeat (first | with_reducible assumption | apply List.mem_cons_of_mem))); (case l => with_reducible assumption)); intro t')
  k_with "call builtin:str.join" => (k_here; k_dflt (refine' join_listW ?R71.hl ?R71.hi ?R71.hs ?R71.hw ?_; (case hl => exact News.isList (by k_asm) (by first | k_mem | exact .head _)); (case hi => assumption); (case hs => decide); (case hw => exact lines_weight (by with_reducible assumption) (by with_reducible assumption))); intro t' k')
  k_with "CompSrc" => (k_here; k_dflt (refine' comp_book rowOf ?R72.B ?R72.hh ?R72.F ?R72.N ?R72.M ?R72.I ?R72.z ?R72.ok ?_ ?_; (case ok => with_reducible assumption); (case hh => exact rfl); (case I => with_reducible assumption); (case B => with_reducible assumption); (case F => k_asm); (case N => k_asm); (case M => k_mem); (case z => omega)); (all_goals first | (intro k' t' I' oI' C' oC' D' m' ys' h' tk' E' hk' hb' ko' ge' le' ln' hC' hx' F' N' off' ne'; (try (simp only [LCg.Off3, and_true] at off'))) | (intro D' vs' h' tk' S' F' N' off'; (try (simp only [LCg.Off1, and_true] at off')))))
  k_with "call builtin:sorted" => (k_here; (with_reducible show wpAny _ _ (PySem.call (Value.builtin "sorted") [Value.ref _]) _ _ _); k_dflt (refine' bk_sorted ?R73.B ?R73.hh ?R73.F ?R73.N ?R73.M ?R73.l ?R73.z ?_; (case F => k_asm); (case N => k_asm); (case hh => exact rfl); (case B => with_reducible assumption); (case M => first | k_mem | exact List.mem_cons_of_mem _ (by with_reducible assumption) | exact List.mem_cons_of_mem _ (List.mem_cons_of_mem _ (by with_reducible assumption))); (case l => with_reducible assumption); (case z => omega)); intro D' vs' c' h' tk' F' N' l1 i'; (try k_lt l1))
  k_with "eval ListComp" => (k_here; k_dflt (refine LCg.ListComp_U (F₀ := by k_asm) (by with_unfolding_all rfl) (by decide) (by rfl) (by decide) (by rfl) ?_))
  k_with "IntEnd" => (k_dflt (exact ⟨_, _, _, rfl, rfl, by k_asm, by k_asm⟩))
  k_with "eval ListComp" => (k_here; k_dflt (refine LCt.ListComp_T (F₀ := by k_asm) (by with_unfolding_all rfl) (by decide) (by rfl) (by decide) (by rfl) ?_))
  k_with "CompSrcT" => (k_here; k_dflt (refine' comp_intsT ?R77.hh ?R77.F ?R77.N ?R77.M ?R77.I ?R77.z ?R77.ok ?_ ?_; (case hh => exact rfl); (case I => with_reducible assumption); (case ok => exact keys_rng (by with_reducible assumption)); (case F => k_asm); (case N => k_asm); (case M => k_mem); (case z => (rw [sort_len, keys_len]; omega))); (all_goals first | (intro k' t' I' oI' C' oC' D' m' ys' h' tk' E' hk' ge' le' hC' hx' F' N' off' ne'; (try (simp only [LCg.Off3, and_true] at off'))) | (intro D' vs' h' tk' S' F' N' off')))
  k_steps
  · exact hret _ _ _ _ (by k_asm) (News.cut2 (News.cut2 (News.cut2 (by with_reducible assumption)))) ⟨_, _, _, rfl, by with_reducible assumption, rfl, (by rename LCg.Off1 _ _ => q; exact q.2.2.2)⟩
end
end Mine

end
section
open PySem PySem.W PyProof.Rows PySem.Calls
set_option Elab.async false
set_option linter.all false
set_option maxRecDepth 100000
set_option rowWalk.seconds 0
namespace Mine
section
variable {w : World} {mean : ExcName → Option Value} {mg mb : Str → Option Value} {news : Led}


set_option maxHeartbeats 4000000 in
theorem c_listed_rows (d : Addr) (o : Obj) (b : Bk) (t1 t2 : Tok) (hb : b.length ≤ 10) (hm : (d, o) ∈ news) (lo : (d == sysModules) = false) (hB : IsBook w o b) (hok : BkOK b) :
    Ctr w mean mg mb 108 4 news [.ref d, .int 0 t1, .int 65529 t2] (fun v nw => ∃ D vs c, v = .ref D ∧ StrsAre vs ((sortI (keysB b)).map fun k => rowOf k (lookG k b)) ∧ nw = (D, listOf vs.toArray c) :: news ∧ LCg.Off1 D news) NoExc := by
  intro dp un gd cn cs a ccd cl outer A₀ base h₀ L m s Q E B F X N T hk hd' hu hret hexc
  refine wpAny_call ?_
  k_dflt (refine' code_defC ?k1 ?k2 ?k3 ?k4 ?k5 ?kA ?kF ?kK ?k6 ?k7 ?k8 ?k9 ?kB ?kD ?_ ?c2 ?c3 ?c4; (case kA => exact rfl); (case kF => exact rfl); (case kK => assumption); (case k1 => k_asm); (case k2 => k_asm); (case k3 => k_asm); (case k4 => k_asm); (case k5 => k_asm); (case k6 => k_is); (case k7 => k_is); (case k8 => ktr_room); (case k9 => exact BindsTo.of_eq rfl); (case kB => exact rfl); (case kD => decide +kernel); (case c2 => exact rfl); (case c3 => exact rfl); (case c4 => exact rfl); k_whole; intro g' L' h' tk' cells' FG' F' N' Y' B' X' T' l1; (try k_lt l1); k_cells Y'; (try simp only [List.cons_append, List.nil_append] at N'); (try dsimp only); (try k_lift B'); (try k_fold))
  w_top off
  k_with_none
  k_with "execs cons" => ((try k_fold); refine wpAny_execs_cons ?_; refine (let sk := _; (?_ : wpAny _ _ _ _ _ sk)))
  k_with "eval Call" => (k_here; (with_reducible show wpAny _ _ (eval (Expr.Call (Expr.Name _ _) _ [] _) _) _ _ _); k_dflt (refine Call_ ?_))
  k_with "exec Raise some none" => (k_here; (refine' raise_B ?_ ?R79.hh); (case hh => k_dflt rfl))
  k_with "call ref" => (k_here; (try refine (?_ : wpAny _ (PySem.Around.deeper _ _) _ _ _ _)); (with_reducible show wpAny _ _ (PySem.call (Value.ref 34) _ _) _ _ _); refine' c_basic ?R80.b1 ?R80.b2 ?R80.b3 ?R80.b4 ?R80.b5 ?R80.b6 ?R80.b7 ?R80.b8 ?R80.b9 ?_; (case b1 => k_asm); (case b2 => k_asm); (case b3 => k_asm); (case b4 => k_asm); (case b5 => k_asm); (case b6 => rfl); (case b7 => rfl); (case b8 => first | rfl | assumption); (case b9 => ktr_room); intro e' dx' oD' ta' h' tk' F' N' d1' d2' d3')
  k_with "RaiseB" => (refine' ⟨_, _, _, rfl, ?R81.r1, ?R81.r2, ?_⟩; (case r1 => exact (News.get (by assumption) (.head _))); (case r2 => exact (Frag.In.keeps (by assumption) (Fr.keep (by assumption))) _ _ (by k_dflt k_is)))
  k_with "leaving ref" => (k_here; first
  | (refine' leave_newB ?R82.k1 ?R82.k2 ?R82.k3 ?R82.k4 ?R82.k5 ?R82.k6 ?_; (case k1 => assumption); (case k2 => assumption); (case k3 => assumption); (case k4 => assumption); (case k5 => assumption); (case k6 => assumption); k_whole; intro h' R' U'; (try dsimp only at R' U' ⊢))
  | (refine' leave_onB ?R82.k1 ?R82.k2 ?R82.k3 ?R82.k4 ?_; (case k3 => assumption); (case k1 => assumption); (case k4 => assumption); (case k2 => assumption); k_whole; intro h' R' U'; (try dsimp only at R' U' ⊢)))
  k_with "setItem ref int" => (k_here; refine' bk_set ?R83.B ?R83.F ?R83.N ?R83.U ?R83.z ?_; (case F => k_asm); (case N => k_asm); (case U => k_updF); (case B => with_reducible assumption); (case z => omega); intro h' o' F' N' B')
  k_with "StrEnd" => (k_dflt (exact ⟨_, _, _, rfl, rfl, by k_asm, by k_asm⟩))
  k_with "subscriptTail Name Name ref int" => (k_here; k_dflt (refine' bk_get ?R85.B ?R85.D ?R85.l ?R85.hk ?_ ?R85.a ?R85.b; (case a => with_unfolding_all rfl); (case b => with_unfolding_all exact fun _ => rfl); (case hk => with_reducible assumption); (case B => with_reducible assumption); (case D => exact News.get (by k_asm) (by repeat (first | with_reducible assumption | apply List.mem_cons_of_mem))); (case l => with_reducible assumption)); intro t')
  k_with "call builtin:str.join" => (k_here; k_dflt (refine' join_listW ?R86.hl ?R86.hi ?R86.hs ?R86.hw ?_; (case hl => exact News.isList (by k_asm) (by first | k_mem | exact .head _)); (case hi => assumption); (case hs => decide); (case hw => exact lines_weight (by with_reducible assumption) (by with_reducible assumption))); intro t' k')
  k_with "CompSrc" => (k_here; k_dflt (refine' comp_book rowOf ?R87.B ?R87.hh ?R87.F ?R87.N ?R87.M ?R87.I ?R87.z ?R87.ok ?_ ?_; (case ok => with_reducible assumption); (case hh => exact rfl); (case I => with_reducible assumption); (case B => with_reducible assumption); (case F => k_asm); (case N => k_asm); (case M => k_mem); (case z => omega)); (all_goals first | (intro k' t' I' oI' C' oC' D' m' ys' h' tk' E' hk' hb' ko' ge' le' ln' hC' hx' F' N' off' ne'; (try (simp only [LCg.Off3, and_true] at off'))) | (intro D' vs' h' tk' S' F' N' off'; (try (simp only [LCg.Off1, and_true] at off')))))
  k_with "call builtin:sorted" => (k_here; (with_reducible show wpAny _ _ (PySem.call (Value.builtin "sorted") [Value.ref _]) _ _ _); k_dflt (refine' bk_sorted ?R88.B ?R88.hh ?R88.F ?R88.N ?R88.M ?R88.l ?R88.z ?_; (case F => k_asm); (case N => k_asm); (case hh => exact rfl); (case B => with_reducible assumption); (case M => first | k_mem | exact List.mem_cons_of_mem _ (by with_reducible assumption) | exact List.mem_cons_of_mem _ (List.mem_cons_of_mem _ (by with_reducible assumption))); (case l => with_reducible assumption); (case z => omega)); intro D' vs' c' h' tk' F' N' l1 i'; (try k_lt l1))
  k_with "eval ListComp" => (k_here; k_dflt (refine LCg.ListComp_U (F₀ := by k_asm) (by with_unfolding_all rfl) (by decide) (by rfl) (by decide) (by rfl) ?_))
  k_with "call ref" => (k_here; (try refine (?_ : wpAny _ (PySem.Around.deeper _ _) _ _ _ _)); (with_reducible show wpAny _ _ (PySem.call (Value.ref 103) _ _) _ _ _); (try k_fold); k_dflt (refine' Ctr.use0 (c_numbers_within _ _ _ _ _ ?R90.p1 ?R90.p2 ?R90.p3 ?R90.p4 ?R90.p5) ?R90.k1 ?R90.k2 ?R90.k3 ?R90.k4 ?R90.k5 ?R90.k6 ?R90.k7 ?R90.k8 ?_; tb_start; (case p4 => with_reducible assumption); (case p5 => with_reducible assumption); (case p1 => omega); (case p2 => repeat (first | with_reducible assumption | apply List.mem_cons_of_mem)); (case p3 => with_reducible assumption)); intro v' nw' h' tk' F' N' q'; obtain ⟨D', vs', c', q1, i', q2, l1⟩ := q'; subst q1 q2; (try dsimp only))
  k_steps
  · exact hret _ _ _ _ (by k_asm) (News.cut2 (News.cut2 (by with_reducible assumption))) ⟨_, _, _, rfl, by with_reducible assumption, rfl, (by rename (_ ∧ _ ∧ LCg.Off1 _ _) => q; exact q.2.2)⟩
end
end Mine

end
section
open PySem PySem.W PyProof.Rows PySem.Calls
set_option Elab.async false
set_option linter.all false
set_option maxRecDepth 100000
set_option rowWalk.seconds 0
namespace Mine
section
variable {w : World} {mean : ExcName → Option Value} {mg mb : Str → Option Value} {news : Led}


def OneTok (x : Str) (v : Value) : Prop := ∃ t, v = .str x t
def FigC (n : Int) (x : Str) (m : Int) : Prop :=
  (n = 0 ∧ (x = Str.ofString "" ∧ m = 0 ∨ x = Str.ofString "0" ∧ m = 0)) ∨
  (n = 10 ∧ (x = Str.ofString "" ∧ m = 10 ∨ x = Str.ofString "0" ∧ m = 1 ∨ x = Str.ofString "10" ∧ m = 0)) ∨
  (n = 20 ∧ (x = Str.ofString "" ∧ m = 20 ∨ x = Str.ofString "0" ∧ m = 2 ∨ x = Str.ofString "20" ∧ m = 0)) ∨
  (n = 65529 ∧ (x = Str.ofString "" ∧ m = 65529 ∨ x = Str.ofString "9" ∧ m = 6552 ∨ x = Str.ofString "29" ∧ m = 655 ∨ x = Str.ofString "529" ∧ m = 65 ∨ x = Str.ofString "5529" ∧ m = 6 ∨ x = Str.ofString "65529" ∧ m = 0))
theorem figC_zero {n : Int} (h : KeyOK n) : FigC n (Str.ofString "") n := by
  rcases h with rfl | rfl | rfl | rfl
  · exact .inl ⟨rfl, .inl ⟨rfl, rfl⟩⟩
  · exact .inr (.inl ⟨rfl, .inl ⟨rfl, rfl⟩⟩)
  · exact .inr (.inr (.inl ⟨rfl, .inl ⟨rfl, rfl⟩⟩))
  · exact .inr (.inr (.inr ⟨rfl, .inl ⟨rfl, rfl⟩⟩))
theorem figC_step {n m : Int} {x : Str} (h : FigC n x m) (c : 0 < m ∨ x = Str.ofString "") : FigC n (Str.mk #[(48 + m.fmod 10).toNat] ++ x) (m.fdiv 10) ∧ (Str.mk #[(48 + m.fmod 10).toNat] ++ x).length ≤ 5 := by
  rcases h with ⟨rfl, h⟩ | ⟨rfl, h⟩ | ⟨rfl, h⟩ | ⟨rfl, h⟩
  · rcases h with ⟨rfl, rfl⟩ | ⟨rfl, rfl⟩
    · exact ⟨.inl ⟨rfl, .inr ⟨by decide +kernel, by decide⟩⟩, by decide +kernel⟩
    · exact absurd c (by decide +kernel)
  · rcases h with ⟨rfl, rfl⟩ | ⟨rfl, rfl⟩ | ⟨rfl, rfl⟩
    · exact ⟨.inr (.inl ⟨rfl, .inr (.inl ⟨by decide +kernel, by decide⟩)⟩), by decide +kernel⟩
    · exact ⟨.inr (.inl ⟨rfl, .inr (.inr ⟨by decide +kernel, by decide⟩)⟩), by decide +kernel⟩
    · exact absurd c (by decide +kernel)
  · rcases h with ⟨rfl, rfl⟩ | ⟨rfl, rfl⟩ | ⟨rfl, rfl⟩
    · exact ⟨.inr (.inr (.inl ⟨rfl, .inr (.inl ⟨by decide +kernel, by decide⟩)⟩)), by decide +kernel⟩
    · exact ⟨.inr (.inr (.inl ⟨rfl, .inr (.inr ⟨by decide +kernel, by decide⟩)⟩)), by decide +kernel⟩
    · exact absurd c (by decide +kernel)
  · rcases h with ⟨rfl, rfl⟩ | ⟨rfl, rfl⟩ | ⟨rfl, rfl⟩ | ⟨rfl, rfl⟩ | ⟨rfl, rfl⟩ | ⟨rfl, rfl⟩
    · exact ⟨.inr (.inr (.inr ⟨rfl, .inr (.inl ⟨by decide +kernel, by decide⟩)⟩)), by decide +kernel⟩
    · exact ⟨.inr (.inr (.inr ⟨rfl, .inr (.inr (.inl ⟨by decide +kernel, by decide⟩))⟩)), by decide +kernel⟩
    · exact ⟨.inr (.inr (.inr ⟨rfl, .inr (.inr (.inr (.inl ⟨by decide +kernel, by decide⟩)))⟩)), by decide +kernel⟩
    · exact ⟨.inr (.inr (.inr ⟨rfl, .inr (.inr (.inr (.inr (.inl ⟨by decide +kernel, by decide⟩))))⟩)), by decide +kernel⟩
    · exact ⟨.inr (.inr (.inr ⟨rfl, .inr (.inr (.inr (.inr (.inr ⟨by decide +kernel, by decide⟩))))⟩)), by decide +kernel⟩
    · exact absurd c (by decide +kernel)
theorem figC_end {n m : Int} {x : Str} (h : FigC n x m) (c : ¬ 0 < m) (d : (x == Str.ofString "") = false) : x = Str.ofString (toString n) := by
  rcases h with ⟨rfl, h⟩ | ⟨rfl, h⟩ | ⟨rfl, h⟩ | ⟨rfl, h⟩
  · rcases h with ⟨rfl, rfl⟩ | ⟨rfl, rfl⟩
    · exact absurd d (by decide +kernel)
    · decide +kernel
  · rcases h with ⟨rfl, rfl⟩ | ⟨rfl, rfl⟩ | ⟨rfl, rfl⟩
    · exact absurd d (by decide +kernel)
    · exact absurd (by decide) c
    · decide +kernel
  · rcases h with ⟨rfl, rfl⟩ | ⟨rfl, rfl⟩ | ⟨rfl, rfl⟩
    · exact absurd d (by decide +kernel)
    · exact absurd (by decide) c
    · decide +kernel
  · rcases h with ⟨rfl, rfl⟩ | ⟨rfl, rfl⟩ | ⟨rfl, rfl⟩ | ⟨rfl, rfl⟩ | ⟨rfl, rfl⟩ | ⟨rfl, rfl⟩
    · exact absurd d (by decide +kernel)
    · exact absurd (by decide) c
    · exact absurd (by decide) c
    · exact absurd (by decide) c
    · exact absurd (by decide) c
    · decide +kernel
theorem fig_less {a : Nat} {x : Str} (h : x.length ≤ 5) : 6 - (Str.mk #[a] ++ x).length < 6 - x.length := by
  have e : (Str.mk #[a] ++ x).length = 1 + x.length := by
    show (#[a] ++ x.cps).size = 1 + x.cps.size
    rw [Array.size_append]; rfl
  omega
set_option maxHeartbeats 4000000 in
theorem c_fig (n : Int) (t : Tok) (hn : KeyOK n) : Ctr w mean mg mb 276 1 news [.int n t] (fun v nw => OneTok (Str.ofString (toString n)) v ∧ news = nw) NoExc := by
  intro dp un gd cn cs a ccd cl outer A₀ base h₀ L m s Q E B F X N T hk hd' hu hret hexc
  refine wpAny_call ?_
  k_dflt cell_enter
  refine (let ak := _; (?_ : wpAny _ ak _ _ _ _))
  w_top off
  k_with_none
  k_with "execs cons" => ((try k_fold); refine wpAny_execs_cons ?_; refine (let sk := _; (?_ : wpAny _ _ _ _ _ sk)))
  k_with "eval Call" => (k_here; (with_reducible show wpAny _ _ (eval (Expr.Call (Expr.Name _ _) _ [] _) _) _ _ _); k_dflt (refine Call_ ?_))
  k_with "exec Raise some none" => (k_here; (refine' raise_B ?_ ?R92.hh); (case hh => k_dflt rfl))
  k_with "call ref" => (k_here; (try refine (?_ : wpAny _ (PySem.Around.deeper _ _) _ _ _ _)); (with_reducible show wpAny _ _ (PySem.call (Value.ref 34) _ _) _ _ _); refine' c_basic ?R93.b1 ?R93.b2 ?R93.b3 ?R93.b4 ?R93.b5 ?R93.b6 ?R93.b7 ?R93.b8 ?R93.b9 ?_; (case b1 => k_asm); (case b2 => k_asm); (case b3 => k_asm); (case b4 => k_asm); (case b5 => k_asm); (case b6 => rfl); (case b7 => rfl); (case b8 => first | rfl | assumption); (case b9 => ktr_room); intro e' dx' oD' ta' h' tk' F' N' d1' d2' d3')
  k_with "RaiseB" => (refine' ⟨_, _, _, rfl, ?R94.r1, ?R94.r2, ?_⟩; (case r1 => exact (News.get (by assumption) (.head _))); (case r2 => exact (Frag.In.keeps (by assumption) (Fr.keep (by assumption))) _ _ (by k_dflt k_is)))
  k_with "leaving ref" => (k_here; first
  | (refine' leave_newB ?R95.k1 ?R95.k2 ?R95.k3 ?R95.k4 ?R95.k5 ?R95.k6 ?_; (case k1 => assumption); (case k2 => assumption); (case k3 => assumption); (case k4 => assumption); (case k5 => assumption); (case k6 => assumption); k_whole; intro h' R' U'; (try dsimp only at R' U' ⊢))
  | (refine' leave_onB ?R95.k1 ?R95.k2 ?R95.k3 ?R95.k4 ?_; (case k3 => assumption); (case k1 => assumption); (case k4 => assumption); (case k2 => assumption); k_whole; intro h' R' U'; (try dsimp only at R' U' ⊢)))
  k_with "setItem ref int" => (k_here; refine' bk_set ?R96.B ?R96.F ?R96.N ?R96.U ?R96.z ?_; (case F => k_asm); (case N => k_asm); (case U => k_updF); (case B => with_reducible assumption); (case z => omega); intro h' o' F' N' B')
  k_with "exec While" => k_while_given ["number!"] (fun n0 _ found' number' => FigC n0 found' number' ∧ found'.length ≤ 5) (fun n0 _ found' number' => 6 - found'.length) "found" "number"
  k_with "state" => first | exact ⟨figC_zero hn, by decide +kernel⟩ | exact figC_step (by with_reducible assumption) (.inl (by with_reducible assumption)) | exact figC_step (by with_reducible assumption) (.inr (eq_of_beq (by with_reducible assumption))) | exact figC_step (And.left (show FigC _ _ _ ∧ _ by with_reducible assumption)) (.inl (by with_reducible assumption)) | exact figC_step (And.left (show FigC _ _ _ ∧ _ by with_reducible assumption)) (.inr (eq_of_beq (by with_reducible assumption)))
  k_with "measure" => first | exact fig_less (by with_reducible assumption) | exact fig_less (And.right (show FigC _ _ _ ∧ _ by with_reducible assumption))
  k_steps
  exact hret _ _ _ _ (by k_asm) (by k_asm) ⟨⟨_, congrArg (Value.str · _) (figC_end (by with_reducible assumption) (by with_reducible assumption) (by with_reducible assumption))⟩, rfl⟩
end
end Mine

end
section
open PySem PySem.W PyProof.Rows PySem.Calls
set_option Elab.async false
set_option linter.all false
set_option maxRecDepth 100000
set_option rowWalk.seconds 0
namespace Mine
section
variable {w : World} {mean : ExcName → Option Value} {mg mb : Str → Option Value} {news : Led}



set_option maxHeartbeats 4000000 in
theorem c_listed (d : Addr) (o : Obj) (b : Bk) (hb : b.length ≤ 10) (hm : (d, o) ∈ news) (lo : (d == sysModules) = false) (hB : IsBook w o b) (hok : BkOK b) :
    Ctr w mean mg mb 288 3 news [.ref d] (fun v nw => (∃ t, v = .str (bookText b) t) ∧ news = nw) NoExc := by
  intro dp un gd cn cs a ccd cl outer A₀ base h₀ L m s Q E B F X N T hk hd' hu hret hexc
  refine wpAny_call ?_
  k_dflt (refine' code_defC ?k1 ?k2 ?k3 ?k4 ?k5 ?kA ?kF ?kK ?k6 ?k7 ?k8 ?k9 ?kB ?kD ?_ ?c2 ?c3 ?c4; (case kA => exact rfl); (case kF => exact rfl); (case kK => assumption); (case k1 => k_asm); (case k2 => k_asm); (case k3 => k_asm); (case k4 => k_asm); (case k5 => k_asm); (case k6 => k_is); (case k7 => k_is); (case k8 => ktr_room); (case k9 => exact BindsTo.of_eq rfl); (case kB => exact rfl); (case kD => decide +kernel); (case c2 => exact rfl); (case c3 => exact rfl); (case c4 => exact rfl); k_whole; intro g' L' h' tk' cells' FG' F' N' Y' B' X' T' l1; (try k_lt l1); k_cells Y'; (try simp only [List.cons_append, List.nil_append] at N'); (try dsimp only); (try k_lift B'); (try k_fold))
  w_top off
  k_with_none
  k_with "execs cons" => ((try k_fold); refine wpAny_execs_cons ?_; refine (let sk := _; (?_ : wpAny _ _ _ _ _ sk)))
  k_with "eval Call" => (k_here; (with_reducible show wpAny _ _ (eval (Expr.Call (Expr.Name _ _) _ [] _) _) _ _ _); k_dflt (refine Call_ ?_))
  k_with "exec Raise some none" => (k_here; (refine' raise_B ?_ ?R98.hh); (case hh => k_dflt rfl))
  k_with "call ref" => (k_here; (try refine (?_ : wpAny _ (PySem.Around.deeper _ _) _ _ _ _)); (with_reducible show wpAny _ _ (PySem.call (Value.ref 34) _ _) _ _ _); refine' c_basic ?R99.b1 ?R99.b2 ?R99.b3 ?R99.b4 ?R99.b5 ?R99.b6 ?R99.b7 ?R99.b8 ?R99.b9 ?_; (case b1 => k_asm); (case b2 => k_asm); (case b3 => k_asm); (case b4 => k_asm); (case b5 => k_asm); (case b6 => rfl); (case b7 => rfl); (case b8 => first | rfl | assumption); (case b9 => ktr_room); intro e' dx' oD' ta' h' tk' F' N' d1' d2' d3')
  k_with "RaiseB" => (refine' ⟨_, _, _, rfl, ?R100.r1, ?R100.r2, ?_⟩; (case r1 => exact (News.get (by assumption) (.head _))); (case r2 => exact (Frag.In.keeps (by assumption) (Fr.keep (by assumption))) _ _ (by k_dflt k_is)))
  k_with "leaving ref" => (k_here; first
  | (refine' leave_newB ?R101.k1 ?R101.k2 ?R101.k3 ?R101.k4 ?R101.k5 ?R101.k6 ?_; (case k1 => assumption); (case k2 => assumption); (case k3 => assumption); (case k4 => assumption); (case k5 => assumption); (case k6 => assumption); k_whole; intro h' R' U'; (try dsimp only at R' U' ⊢))
  | (refine' leave_onB ?R101.k1 ?R101.k2 ?R101.k3 ?R101.k4 ?_; (case k3 => assumption); (case k1 => assumption); (case k4 => assumption); (case k2 => assumption); k_whole; intro h' R' U'; (try dsimp only at R' U' ⊢)))
  k_with "setItem ref int" => (k_here; refine' bk_set ?R102.B ?R102.F ?R102.N ?R102.U ?R102.z ?_; (case F => k_asm); (case N => k_asm); (case U => k_updF); (case B => with_reducible assumption); (case z => omega); intro h' o' F' N' B')
  k_with "StrEnd" => (k_dflt (exact ⟨_, _, _, rfl, rfl, by k_asm, by k_asm⟩))
  k_with "subscriptTail Name Name ref int" => (k_here; k_dflt (refine' bk_get ?R104.B ?R104.D ?R104.l ?R104.hk ?_ ?R104.a ?R104.b; (case a => with_unfolding_all rfl); (case b => with_unfolding_all exact fun _ => rfl); (case hk => with_reducible assumption); (case B => with_reducible assumption); (case D => exact News.get (by k_asm) (by repeat (first | with_reducible assumption | apply List.mem_cons_of_mem))); (case l => with_reducible assumption)); intro t')
  k_with "call builtin:str.join" => (k_here; k_dflt (refine' join_listW ?R105.hl ?R105.hi ?R105.hs ?R105.hw ?_; (case hl => exact News.isList (by k_asm) (by first | k_mem | exact .head _)); (case hi => assumption); (case hs => decide); (case hw => exact lines_weight (by with_reducible assumption) (by with_reducible assumption))); intro t' k')
  k_with "CompSrc" => (k_here; k_dflt (refine' comp_book lineOf ?R106.B ?R106.hh ?R106.F ?R106.N ?R106.M ?R106.I ?R106.z ?R106.ok ?_ ?_; (case ok => with_reducible assumption); (case hh => exact rfl); (case I => with_reducible assumption); (case B => with_reducible assumption); (case F => k_asm); (case N => k_asm); (case M => k_mem); (case z => omega)); (all_goals first | (intro k' t' I' oI' C' oC' D' m' ys' h' tk' E' hk' hb' ko' ge' le' ln' hC' hx' F' N' off' ne'; (try (simp only [LCg.Off3, and_true] at off'))) | (intro D' vs' h' tk' S' F' N' off'; (try (simp only [LCg.Off1, and_true] at off')))))
  k_with "call builtin:sorted" => (k_here; (with_reducible show wpAny _ _ (PySem.call (Value.builtin "sorted") [Value.ref _]) _ _ _); k_dflt (refine' bk_sorted ?R107.B ?R107.hh ?R107.F ?R107.N ?R107.M ?R107.l ?R107.z ?_; (case F => k_asm); (case N => k_asm); (case hh => exact rfl); (case B => with_reducible assumption); (case M => first | k_mem | exact List.mem_cons_of_mem _ (by with_reducible assumption) | exact List.mem_cons_of_mem _ (List.mem_cons_of_mem _ (by with_reducible assumption))); (case l => with_reducible assumption); (case z => omega)); intro D' vs' c' h' tk' F' N' l1 i'; (try k_lt l1))
  k_with "eval ListComp" => (k_here; k_dflt (refine LCg.ListComp_U (F₀ := by k_asm) (by with_unfolding_all rfl) (by decide) (by rfl) (by decide) (by rfl) ?_))
  k_with "call ref" => (k_here; (try refine (?_ : wpAny _ (PySem.Around.deeper _ _) _ _ _ _)); (with_reducible show wpAny _ _ (PySem.call (Value.ref 276) _ _) _ _ _); (try k_fold); k_dflt (refine' Ctr.use0 (c_fig _ _ ?R109.p1) ?R109.k1 ?R109.k2 ?R109.k3 ?R109.k4 ?R109.k5 ?R109.k6 ?R109.k7 ?R109.k8 ?_; tb_start; (case p1 => with_reducible assumption)); intro v' nw' h' tk' F' N' q'; obtain ⟨⟨t', q1⟩, q2⟩ := q'; subst q1 q2; (try dsimp only))
  k_steps
  · exact hret _ _ _ _ (by k_asm) (News.cut1 (News.cut1 (News.cut1 (by with_reducible assumption)))) ⟨⟨_, rfl⟩, rfl⟩
theorem num_step {x : Str} {pre post : List Int} {n : Nat} {a : Int} (hk : KStt.codes x = pre ++ (n : Int) :: post) (h1 : a = numF pre) : a * 10 + n - 48 = numF (pre ++ [(n : Int)]) := by
  unfold numF
  rw [List.foldl_append, h1]
  show _ * 10 + _ - 48 = 10 * _ + _ - 48
  unfold numF
  omega
set_option maxHeartbeats 4000000 in
theorem c_plain_number (x : Str) (t : Tok) (hx : x.length ≤ 1000) : Ctr w mean mg mb 269 1 news [.str x t] (fun v nw => (∃ t', v = .int (numF (x.cps.toList.map (fun (c:Nat) => (c : Int)))) t') ∧ news = nw) NoExc := by
  intro dp un gd cn cs a ccd cl outer A₀ base h₀ L m s Q E B F X N T hk hd' hu hret hexc
  refine wpAny_call ?_
  k_dflt cell_enter
  refine (let ak := _; (?_ : wpAny _ ak _ _ _ _))
  w_top off
  k_with_none
  k_with "execs cons" => ((try k_fold); refine wpAny_execs_cons ?_; refine (let sk := _; (?_ : wpAny _ _ _ _ _ sk)))
  k_with "eval Call" => (k_here; (with_reducible show wpAny _ _ (eval (Expr.Call (Expr.Name _ _) _ [] _) _) _ _ _); k_dflt (refine Call_ ?_))
  k_with "exec Raise some none" => (k_here; (refine' raise_B ?_ ?R98.hh); (case hh => k_dflt rfl))
  k_with "call ref" => (k_here; (try refine (?_ : wpAny _ (PySem.Around.deeper _ _) _ _ _ _)); (with_reducible show wpAny _ _ (PySem.call (Value.ref 34) _ _) _ _ _); refine' c_basic ?R99.b1 ?R99.b2 ?R99.b3 ?R99.b4 ?R99.b5 ?R99.b6 ?R99.b7 ?R99.b8 ?R99.b9 ?_; (case b1 => k_asm); (case b2 => k_asm); (case b3 => k_asm); (case b4 => k_asm); (case b5 => k_asm); (case b6 => rfl); (case b7 => rfl); (case b8 => first | rfl | assumption); (case b9 => ktr_room); intro e' dx' oD' ta' h' tk' F' N' d1' d2' d3')
  k_with "RaiseB" => (refine' ⟨_, _, _, rfl, ?R100.r1, ?R100.r2, ?_⟩; (case r1 => exact (News.get (by assumption) (.head _))); (case r2 => exact (Frag.In.keeps (by assumption) (Fr.keep (by assumption))) _ _ (by k_dflt k_is)))
  k_with "leaving ref" => (k_here; first
  | (refine' leave_newB ?R101.k1 ?R101.k2 ?R101.k3 ?R101.k4 ?R101.k5 ?R101.k6 ?_; (case k1 => assumption); (case k2 => assumption); (case k3 => assumption); (case k4 => assumption); (case k5 => assumption); (case k6 => assumption); k_whole; intro h' R' U'; (try dsimp only at R' U' ⊢))
  | (refine' leave_onB ?R101.k1 ?R101.k2 ?R101.k3 ?R101.k4 ?_; (case k3 => assumption); (case k1 => assumption); (case k4 => assumption); (case k2 => assumption); k_whole; intro h' R' U'; (try dsimp only at R' U' ⊢)))
  k_with "setItem ref int" => (k_here; refine' bk_set ?R102.B ?R102.F ?R102.N ?R102.U ?R102.z ?_; (case F => k_asm); (case N => k_asm); (case U => k_updF); (case B => with_reducible assumption); (case z => omega); intro h' o' F' N' B')
  k_with "StrEnd" => (k_dflt (exact ⟨_, _, _, rfl, rfl, by k_asm, by k_asm⟩))
  k_with "subscriptTail Name Name ref int" => (k_here; k_dflt (refine' bk_get ?R104.B ?R104.D ?R104.l ?R104.hk ?_ ?R104.a ?R104.b; (case a => with_unfolding_all rfl); (case b => with_unfolding_all exact fun _ => rfl); (case hk => with_reducible assumption); (case B => with_reducible assumption); (case D => exact News.get (by k_asm) (by repeat (first | with_reducible assumption | apply List.mem_cons_of_mem))); (case l => with_reducible assumption)); intro t')
  k_with "call builtin:str.join" => (k_here; k_dflt (refine' join_listW ?R105.hl ?R105.hi ?R105.hs ?R105.hw ?_; (case hl => exact News.isList (by k_asm) (by first | k_mem | exact .head _)); (case hi => assumption); (case hs => decide); (case hw => exact lines_weight (by with_reducible assumption) (by with_reducible assumption))); intro t' k')
  k_with "CompSrc" => (k_here; k_dflt (refine' comp_book lineOf ?R106.B ?R106.hh ?R106.F ?R106.N ?R106.M ?R106.I ?R106.z ?R106.ok ?_ ?_; (case ok => with_reducible assumption); (case hh => exact rfl); (case I => with_reducible assumption); (case B => with_reducible assumption); (case F => k_asm); (case N => k_asm); (case M => k_mem); (case z => omega)); (all_goals first | (intro k' t' I' oI' C' oC' D' m' ys' h' tk' E' hk' hb' ko' ge' le' ln' hC' hx' F' N' off' ne'; (try (simp only [LCg.Off3, and_true] at off'))) | (intro D' vs' h' tk' S' F' N' off'; (try (simp only [LCg.Off1, and_true] at off')))))
  k_with "call builtin:sorted" => (k_here; (with_reducible show wpAny _ _ (PySem.call (Value.builtin "sorted") [Value.ref _]) _ _ _); k_dflt (refine' bk_sorted ?R107.B ?R107.hh ?R107.F ?R107.N ?R107.M ?R107.l ?R107.z ?_; (case F => k_asm); (case N => k_asm); (case hh => exact rfl); (case B => with_reducible assumption); (case M => first | k_mem | exact List.mem_cons_of_mem _ (by with_reducible assumption) | exact List.mem_cons_of_mem _ (List.mem_cons_of_mem _ (by with_reducible assumption))); (case l => with_reducible assumption); (case z => omega)); intro D' vs' c' h' tk' F' N' l1 i'; (try k_lt l1))
  k_with "eval ListComp" => (k_here; k_dflt (refine LCg.ListComp_U (F₀ := by k_asm) (by with_unfolding_all rfl) (by decide) (by rfl) (by decide) (by rfl) ?_))
  k_with "call ref" => (k_here; (try refine (?_ : wpAny _ (PySem.Around.deeper _ _) _ _ _ _)); (with_reducible show wpAny _ _ (PySem.call (Value.ref 276) _ _) _ _ _); (try k_fold); k_dflt (refine' Ctr.use0 (c_fig _ _ ?R109.p1) ?R109.k1 ?R109.k2 ?R109.k3 ?R109.k4 ?R109.k5 ?R109.k6 ?R109.k7 ?R109.k8 ?_; tb_start; (case p1 => with_reducible assumption)); intro v' nw' h' tk' F' N' q'; obtain ⟨⟨t', q1⟩, q2⟩ := q'; subst q1 q2; (try dsimp only))
  k_with "pyIter str" => k_state (fun pre n => n = numF pre) "found"
  k_with "state" => first | exact rfl | exact num_step (by with_reducible assumption) (by with_reducible assumption)
  k_steps
  · exact hret _ _ _ _ (by k_asm) (by k_asm) ⟨⟨_, congrArg (Value.int · _) (by assumption)⟩, rfl⟩
def splitR (x : Str) : Option (Option Int × Str) :=
  let b := endOf isSkip x 0
  let e := endOf isFigS x b
  if e = b then some (none, Txt.slice x (some b) none)
  else if 5 < e - b then none
  else if 65529 < numF ((Txt.slice x (some b) (some e)).cps.toList.map (fun (c:Nat) => (c : Int))) then none
  else some (some (numF ((Txt.slice x (some b) (some e)).cps.toList.map (fun (c:Nat) => (c : Int)))), Txt.slice x (some (endOf isSkip x e)) none)
section
variable {x : Str} {b e s : Int}
theorem splitR_none (e1 : b = endOf isSkip x 0) (e2 : e = endOf isFigS x b) (h : e = b) : splitR x = some (none, Txt.slice x (some b) none) := by
  unfold splitR; rw [← e1]; dsimp only; rw [← e2, if_pos h]
theorem splitR_long (e1 : b = endOf isSkip x 0) (e2 : e = endOf isFigS x b) (h : e ≠ b) (h5 : 5 < e - b) : splitR x = none := by
  unfold splitR; rw [← e1]; dsimp only; rw [← e2, if_neg h, if_pos h5]
theorem splitR_big (e1 : b = endOf isSkip x 0) (e2 : e = endOf isFigS x b) (h : e ≠ b) (h5 : ¬ 5 < e - b) (hn : 65529 < numF ((Txt.slice x (some b) (some e)).cps.toList.map (fun (c:Nat) => (c : Int)))) : splitR x = none := by
  unfold splitR; rw [← e1]; dsimp only; rw [← e2, if_neg h, if_neg h5, if_pos hn]
theorem splitR_one (e1 : b = endOf isSkip x 0) (e2 : e = endOf isFigS x b) (h : e ≠ b) (h5 : ¬ 5 < e - b) (hn : ¬ 65529 < numF ((Txt.slice x (some b) (some e)).cps.toList.map (fun (c:Nat) => (c : Int)))) (e3 : s = endOf isSkip x e) :
    splitR x = some (some (numF ((Txt.slice x (some b) (some e)).cps.toList.map (fun (c:Nat) => (c : Int)))), Txt.slice x (some s) none) := by
  unfold splitR; rw [← e1]; dsimp only; rw [← e2, if_neg h, if_neg h5, if_neg hn, e3]
end
set_option maxHeartbeats 4000000 in
theorem c_split_number (x : Str) (t : Tok) (hx : x.length ≤ 1000) : Ctr w mean mg mb 283 3 news [.str x t] (fun v nw => ∃ r, splitR x = some r ∧ r.2.length ≤ x.length ∧ PairIs r news v nw) (fun c => splitR x = none ∧ excSN c) := by
  intro dp un gd cn cs a ccd cl outer A₀ base h₀ L m s Q E B F X N T hk hd' hu hret hexc
  refine wpAny_call ?_
  k_dflt cell_enter
  refine (let ak := _; (?_ : wpAny _ ak _ _ _ _))
  w_top off
  k_with_none
  k_with "execs cons" => ((try k_fold); refine wpAny_execs_cons ?_; refine (let sk := _; (?_ : wpAny _ _ _ _ _ sk)))
  k_with "eval Call" => (k_here; (with_reducible show wpAny _ _ (eval (Expr.Call (Expr.Name _ _) _ [] _) _) _ _ _); k_dflt (refine Call_ ?_))
  k_with "exec Raise some none" => (k_here; (refine' raise_B ?_ ?R98.hh); (case hh => k_dflt rfl))
  k_with "call ref" => (k_here; (try refine (?_ : wpAny _ (PySem.Around.deeper _ _) _ _ _ _)); (with_reducible show wpAny _ _ (PySem.call (Value.ref 34) _ _) _ _ _); refine' c_basic ?R99.b1 ?R99.b2 ?R99.b3 ?R99.b4 ?R99.b5 ?R99.b6 ?R99.b7 ?R99.b8 ?R99.b9 ?_; (case b1 => k_asm); (case b2 => k_asm); (case b3 => k_asm); (case b4 => k_asm); (case b5 => k_asm); (case b6 => rfl); (case b7 => rfl); (case b8 => first | rfl | assumption); (case b9 => ktr_room); intro e' dx' oD' ta' h' tk' F' N' d1' d2' d3')
  k_with "RaiseB" => (refine' ⟨_, _, _, rfl, ?R100.r1, ?R100.r2, ?_⟩; (case r1 => exact (News.get (by assumption) (.head _))); (case r2 => exact (Frag.In.keeps (by assumption) (Fr.keep (by assumption))) _ _ (by k_dflt k_is)))
  k_with "leaving ref" => (k_here; first
  | (refine' leave_newB ?R101.k1 ?R101.k2 ?R101.k3 ?R101.k4 ?R101.k5 ?R101.k6 ?_; (case k1 => assumption); (case k2 => assumption); (case k3 => assumption); (case k4 => assumption); (case k5 => assumption); (case k6 => assumption); k_whole; intro h' R' U'; (try dsimp only at R' U' ⊢))
  | (refine' leave_onB ?R101.k1 ?R101.k2 ?R101.k3 ?R101.k4 ?_; (case k3 => assumption); (case k1 => assumption); (case k4 => assumption); (case k2 => assumption); k_whole; intro h' R' U'; (try dsimp only at R' U' ⊢)))
  k_with "setItem ref int" => (k_here; refine' bk_set ?R102.B ?R102.F ?R102.N ?R102.U ?R102.z ?_; (case F => k_asm); (case N => k_asm); (case U => k_updF); (case B => with_reducible assumption); (case z => omega); intro h' o' F' N' B')
  k_with "StrEnd" => (k_dflt (exact ⟨_, _, _, rfl, rfl, by k_asm, by k_asm⟩))
  k_with "subscriptTail Name Name ref int" => (k_here; k_dflt (refine' bk_get ?R104.B ?R104.D ?R104.l ?R104.hk ?_ ?R104.a ?R104.b; (case a => with_unfolding_all rfl); (case b => with_unfolding_all exact fun _ => rfl); (case hk => with_reducible assumption); (case B => with_reducible assumption); (case D => exact News.get (by k_asm) (by repeat (first | with_reducible assumption | apply List.mem_cons_of_mem))); (case l => with_reducible assumption)); intro t')
  k_with "call builtin:str.join" => (k_here; k_dflt (refine' join_listW ?R105.hl ?R105.hi ?R105.hs ?R105.hw ?_; (case hl => exact News.isList (by k_asm) (by first | k_mem | exact .head _)); (case hi => assumption); (case hs => decide); (case hw => exact lines_weight (by with_reducible assumption) (by with_reducible assumption))); intro t' k')
  k_with "CompSrc" => (k_here; k_dflt (refine' comp_book lineOf ?R106.B ?R106.hh ?R106.F ?R106.N ?R106.M ?R106.I ?R106.z ?R106.ok ?_ ?_; (case ok => with_reducible assumption); (case hh => exact rfl); (case I => with_reducible assumption); (case B => with_reducible assumption); (case F => k_asm); (case N => k_asm); (case M => k_mem); (case z => omega)); (all_goals first | (intro k' t' I' oI' C' oC' D' m' ys' h' tk' E' hk' hb' ko' ge' le' ln' hC' hx' F' N' off' ne'; (try (simp only [LCg.Off3, and_true] at off'))) | (intro D' vs' h' tk' S' F' N' off'; (try (simp only [LCg.Off1, and_true] at off')))))
  k_with "call builtin:sorted" => (k_here; (with_reducible show wpAny _ _ (PySem.call (Value.builtin "sorted") [Value.ref _]) _ _ _); k_dflt (refine' bk_sorted ?R107.B ?R107.hh ?R107.F ?R107.N ?R107.M ?R107.l ?R107.z ?_; (case F => k_asm); (case N => k_asm); (case hh => exact rfl); (case B => with_reducible assumption); (case M => first | k_mem | exact List.mem_cons_of_mem _ (by with_reducible assumption) | exact List.mem_cons_of_mem _ (List.mem_cons_of_mem _ (by with_reducible assumption))); (case l => with_reducible assumption); (case z => omega)); intro D' vs' c' h' tk' F' N' l1 i'; (try k_lt l1))
  k_with "eval ListComp" => (k_here; k_dflt (refine LCg.ListComp_U (F₀ := by k_asm) (by with_unfolding_all rfl) (by decide) (by rfl) (by decide) (by rfl) ?_))
  k_with "call ref" => (k_here; (try refine (?_ : wpAny _ (PySem.Around.deeper _ _) _ _ _ _)); (with_reducible show wpAny _ _ (PySem.call (Value.ref 276) _ _) _ _ _); (try k_fold); k_dflt (refine' Ctr.use0 (c_fig _ _ ?R109.p1) ?R109.k1 ?R109.k2 ?R109.k3 ?R109.k4 ?R109.k5 ?R109.k6 ?R109.k7 ?R109.k8 ?_; tb_start; (case p1 => with_reducible assumption)); intro v' nw' h' tk' F' N' q'; obtain ⟨⟨t', q1⟩, q2⟩ := q'; subst q1 q2; (try dsimp only))
  k_with "call ref" => (k_here; (try refine (?_ : wpAny _ (PySem.Around.deeper _ _) _ _ _ _)); (with_reducible show wpAny _ _ (PySem.call (Value.ref 164) _ _) _ _ _); (try k_fold); refine' Ctr.use0 (c_skipped _ _ _ _ ?R110.p1 ?R110.p2) ?R110.k1 ?R110.k2 ?R110.k3 ?R110.k4 ?R110.k5 ?R110.k6 ?R110.k7 ?R110.k8 ?_; (case p1 => omega); (case p2 => omega); tb_start; intro v' nw' h' tk' F' N' q'; obtain ⟨⟨n', tq, q1, e', g', l'⟩, q2⟩ := q'; subst q1 q2; (have l' := l' (by omega)); (try dsimp only))
  k_with "call ref" => (k_here; (try refine (?_ : wpAny _ (PySem.Around.deeper _ _) _ _ _ _)); (with_reducible show wpAny _ _ (PySem.call (Value.ref 157) _ _) _ _ _); (try k_fold); refine' Ctr.use0 (c_figures_end _ _ _ _ ?R111.p1 ?R111.p2) ?R111.k1 ?R111.k2 ?R111.k3 ?R111.k4 ?R111.k5 ?R111.k6 ?R111.k7 ?R111.k8 ?_; (case p1 => omega); (case p2 => omega); tb_start; intro v' nw' h' tk' F' N' q'; obtain ⟨⟨n', tq, q1, e', g', l'⟩, q2⟩ := q'; subst q1 q2; (have l' := l' (by omega)); (try dsimp only))
  k_with "call ref" => (k_here; (try refine (?_ : wpAny _ (PySem.Around.deeper _ _) _ _ _ _)); (with_reducible show wpAny _ _ (PySem.call (Value.ref 269) _ _) _ _ _); (try k_fold); refine' Ctr.use0 (c_plain_number _ _ ?R112.p1) ?R112.k1 ?R112.k2 ?R112.k3 ?R112.k4 ?R112.k5 ?R112.k6 ?R112.k7 ?R112.k8 ?_; (case p1 => omega); tb_start; intro v' nw' h' tk' F' N' q'; obtain ⟨⟨tq, q1⟩, q2⟩ := q'; subst q1 q2; (try dsimp only))
  k_steps
  · exact hret _ _ _ _ (by k_asm) (by with_reducible assumption) ⟨_, splitR_none (by with_reducible assumption) (by with_reducible assumption) (by with_reducible assumption), by with_reducible assumption, _, _, _, rfl, rfl, by with_reducible assumption, rfl⟩
  · exact hexc _ _ _ _ _ (by assumption) (by assumption) (by assumption) ⟨splitR_long (by with_reducible assumption) (by with_reducible assumption) (by with_reducible assumption) (by with_reducible assumption), _, rfl⟩
  · exact hexc _ _ _ _ _ (by assumption) (by assumption) (by assumption) ⟨splitR_big (by with_reducible assumption) (by with_reducible assumption) (by with_reducible assumption) (by with_reducible assumption) (by with_reducible assumption), _, rfl⟩
  · exact hret _ _ _ _ (by k_asm) (by with_reducible assumption) ⟨_, splitR_one (by with_reducible assumption) (by with_reducible assumption) (by with_reducible assumption) (by with_reducible assumption) (by with_reducible assumption) (by with_reducible assumption), by with_reducible assumption, _, _, _, rfl, rfl, by with_reducible assumption, ⟨_, rfl⟩⟩
end
end Mine

end
section
open PySem PySem.W PyProof.Rows PySem.Calls
set_option Elab.async false
set_option linter.all false
set_option maxRecDepth 100000
set_option rowWalk.seconds 0
namespace Mine
section
variable {prog : Program} {w : World} {A : Around} {E : Value → Shared → Prop} {s : Shared} {env : Env} {h₀ : Heap} {L : Addr} {m : Str → Option Value} {news : Led} {elt iter : Expr} {x : Str} {scope : Scope} {cl : List (Str × Addr)}
open LCg in
def SignSrc (prog : Program) (w : World) (A : Around) (h₀ : Heap) (L : Addr) (m : Str → Option Value) (env : Env) (elt : Expr) (x : Str) (scope : Scope) (cl : List (Str × Addr)) (Q : Value → Shared → Prop) (xv : Value) (s₁ : Shared) : Prop :=
  ∃ y t news, xv = .str y t ∧ y.length ≤ 1000 ∧ y.cps.all (· < 128) = true ∧ A.handled = none ∧ Fr h₀ L s₁.heap m ∧ News h₀ L s₁.heap news ∧
    ∀ g, CompRest prog w A h₀ L m env elt x scope cl { s₁ with heap := g } (fun _ => True) (SignAt y) (FinE h₀ L m { s₁ with heap := g } Q) y.cps.size 0 [] news
open LCg in
theorem ListComp_signs {px pos : Pos} {Q : Value → Shared → Prop} (F₀ : Fr h₀ L s.heap m)
    (hclos : closureFor scope env = pure cl) (hcell : ∀ y ∈ scope.names, y.2 ≠ .cell) (hkind : scope.kind = .function)
    (hnames : ∀ y ∈ scope.names, y.2 = .local → scope.names.lookup y.1 = some .local) (hx : scope.names.lookup x = some .local)
    (h : wpAny (model prog w) A (eval iter env) (SignSrc prog w A h₀ L m env elt x scope cl Q) E s)
    (hs : ∀ x, foldedSetIterable iter env x = pure x := by intro _; rfl) :
    wpAny (model prog w) A (eval (.ListComp elt [⟨.Name x px, iter, [], 0⟩] scope pos) env) Q E s := by
  rw [eval_ListComp]
  refine wpAny_comprehension_free (use := none) rfl hs hclos hkind hnames (wpAny_mono h (fun xv s₁ h₁ => ?_) fun _ _ e => e)
  obtain ⟨y, t, news, rfl, hsz, ha, hh, F, N, R⟩ := h₁
  refine wpAny_pyIter_ascii ha ?_
  have up : ∀ b o, s₁.heap.get? b = some o → (s₁.heap.push { cls := .type "str_ascii_iterator", data := .fields #[.str y t, .int 0 0] }).get? b = some o := fun b o e => Heap.get?_push_of_some _ e
  refine block_U (S := fun _ => True) (Walks.strAscii hh s₁.heap.objs.size y t) (by rw [sizeLine_eq]; have : y.cps.size = y.length := rfl; omega) (fun i h st => by obtain ⟨o, e, _⟩ := st; exact ⟨o, e⟩)
    (fun i h h' o nw st e e' _ _ _ => by obtain ⟨o', q, r⟩ := st; rw [e] at q; cases q; exact ⟨o, e', r⟩) hcell hkind hx ⟨_, Heap.get?_push_size _ rfl, rfl, rfl⟩ (fun b hb => ?_)
    (F.keeps up) (N.grown up) (Nat.ne_of_lt F.ns.lt) (next_is_new F) (fun p hp => Nat.ne_of_lt (Heap.lt_size (N p hp).1)) trivial (R _) ?_
  · rw [List.mem_singleton.mp hb]
    show s₁.heap.objs.size < (s₁.heap.push _).objs.size
    rw [Heap.size_push]; exact Nat.lt_succ_self _
  · intro D C h tk m' ys news' F' N' o1 hn hC₀ hD₀ hCL hDL hCD offC fin
    refine ⟨m', hn, fun h'' hs'' => fin D h'' tk (F'.change hs'' hCL hC₀) (fun p hp => ?_) o1⟩
    refine ⟨hs''.extBut _ _ ?_ (N' p hp).1, (N' p hp).2⟩
    rcases List.mem_cons.mp hp with rfl | hp
    · exact Ne.symm hCD
    · exact offC p hp
def signsL (y : Str) : List Str := y.cps.toList.map fun c => ⟨#[c]⟩
theorem sign_src {y : Str} {t : Tok} {Q : Value → Shared → Prop} (hh : A.handled = none) (F : Fr h₀ L s.heap m) (N : News h₀ L s.heap news) (hsz : y.length ≤ 1000) (ha : y.cps.all (· < 128) = true) (hlow : ∀ z ∈ signsL y, z.cps.toList < (Str.ofString "a").cps.toList)
    (turn : ∀ z t I oI C oC D m₂ ys h tk (E' : Value → Shared → Prop), z.cps.toList < (Str.ofString "a").cps.toList → LCg.NsObj oC m₂ → m₂ x = some (.str z t) → Fr h₀ L h m → News h₀ L h ((I, oI) :: (C, oC) :: (D, LCg.lst ys) :: news) → LCg.Off3 I C D news → ((@Ne Nat I C) ∧ (@Ne Nat I D) ∧ (@Ne Nat C D)) →
      wpAny (model prog w) A (eval elt (compEnvC scope cl C env)) (StrEnd h₀ L m ((I, oI) :: (C, oC) :: (D, LCg.lst ys) :: news) { s with heap := h, toks := tk } z) E' { s with heap := h, toks := tk })
    (done : ∀ D vs' h tk, StrsAre vs' (signsL y) → Fr h₀ L h m → News h₀ L h ((D, LCg.lst vs') :: news) → LCg.Off1 D news → Q (.ref D) { s with heap := h, toks := tk }) :
    SignSrc prog w A h₀ L m env elt x scope cl Q (.str y t) s := by
  refine ⟨y, t, news, rfl, hsz, ha, hh, F, N, fun hp => ?_⟩
  have key : ∀ (j i : Nat) (ys : List Value), i + j = (signsL y).length → StrsAre ys ((signsL y).take i) → LCg.CompRest prog w A h₀ L m env elt x scope cl { s with heap := hp } (fun _ => True) (SignAt y) (LCg.FinE h₀ L m { s with heap := hp } Q) j i ys news := by
    intro j
    induction j with
    | zero =>
      intro i ys hi' hy
      have e : i = (signsL y).length := by omega
      subst e
      rw [List.take_length] at hy
      refine LCg.CompRest.zero ?_
      intro D h tk F' N' off
      exact done D ys h tk hy F' N' off
    | succ j ih =>
      intro i ys hi' hy
      refine LCg.CompRest.succ ?_
      intro v I oI C oC D m₂ h tk E' hv hC hx F N off ne
      obtain ⟨c, u, hc, rfl⟩ := hv
      have e : (signsL y)[i]? = some ⟨#[c]⟩ := by unfold signsL; rw [List.getElem?_map, Array.getElem?_toList, hc]; rfl
      refine wpAny_mono (turn ⟨#[c]⟩ u I oI C oC D m₂ ys h tk E' (hlow _ (List.mem_of_getElem? e)) hC hx F N off ne) (fun y s₂ hq => ?_) fun _ _ e => e
      obtain ⟨h', tk', t', e', hy', F', N'⟩ := hq
      subst e' hy'
      refine ⟨h', tk', news, rfl, F', N', off, trivial, ?_⟩
      refine ih (i + 1) _ (by omega) ?_
      rw [List.take_add_one, e]
      simpa using kct_snoc hy
  have hl : y.cps.size = (signsL y).length := by unfold signsL; simp
  rw [hl]
  exact key _ 0 [] (by omega) (by simp only [List.take_zero]; exact .nil)
theorem signs_weight {y : Str} (hy : y.length ≤ 1000) : ((signsL y).map (·.length)).sum + (signsL y).length ≤ 1048576 := by
  have h1 : (signsL y).length = y.length := by unfold signsL; simp [Str.length]
  have h2 := sum_le (B := 1) (l := (signsL y).map (·.length)) (by
    intro n hn
    obtain ⟨z, hz, rfl⟩ := List.mem_map.mp hn
    obtain ⟨c, _, rfl⟩ := List.mem_map.mp hz
    exact Nat.le_refl _)
  rw [List.length_map] at h2
  omega
def capR (y : Str) : Str := Txt.join (Str.ofString "") (signsL y)
end
section
variable {w : World} {mean : ExcName → Option Value} {mg mb : Str → Option Value} {news : Led}


def isLetS (x : Str) : Bool := (!decide (x.cps.toList < (Str.ofString "A").cps.toList) && !decide ((Str.ofString "Z").cps.toList < x.cps.toList)) || (!decide (x.cps.toList < (Str.ofString "a").cps.toList) && !decide ((Str.ofString "z").cps.toList < x.cps.toList))
set_option maxHeartbeats 4000000 in
theorem c_is_letter (x : Str) (t : Tok) : Ctr w mean mg mb 138 1 news [.str x t] (fun v nw => v = .bool (isLetS x) ∧ news = nw) NoExc := by
  intro dp un gd cn cs a ccd cl outer A₀ base h₀ L m s Q E B F X N T hk hd hu hret hexc
  refine wpAny_call ?_
  k_dflt cell_enter
  refine (let ak := _; (?_ : wpAny _ ak _ _ _ _))
  w_top off
  k_with_none
  k_with "execs cons" => ((try k_fold); refine wpAny_execs_cons ?_; refine (let sk := _; (?_ : wpAny _ _ _ _ _ sk)))
  k_with "eval Call" => (k_here; (with_reducible show wpAny _ _ (eval (Expr.Call (Expr.Name _ _) _ [] _) _) _ _ _); k_dflt (refine Call_ ?_))
  k_with "exec Raise some none" => (k_here; (refine' raise_B ?_ ?R114.hh); (case hh => k_dflt rfl))
  k_with "call ref" => (k_here; (try refine (?_ : wpAny _ (PySem.Around.deeper _ _) _ _ _ _)); (with_reducible show wpAny _ _ (PySem.call (Value.ref 34) _ _) _ _ _); refine' c_basic ?R115.b1 ?R115.b2 ?R115.b3 ?R115.b4 ?R115.b5 ?R115.b6 ?R115.b7 ?R115.b8 ?R115.b9 ?_; (case b1 => k_asm); (case b2 => k_asm); (case b3 => k_asm); (case b4 => k_asm); (case b5 => k_asm); (case b6 => rfl); (case b7 => rfl); (case b8 => first | rfl | assumption); (case b9 => ktr_room); intro e' dx' oD' ta' h' tk' F' N' d1' d2' d3')
  k_with "RaiseB" => (refine' ⟨_, _, _, rfl, ?R116.r1, ?R116.r2, ?_⟩; (case r1 => exact (News.get (by assumption) (.head _))); (case r2 => exact (Frag.In.keeps (by assumption) (Fr.keep (by assumption))) _ _ (by k_dflt k_is)))
  k_with "leaving ref" => (k_here; first
  | (refine' leave_newB ?R117.k1 ?R117.k2 ?R117.k3 ?R117.k4 ?R117.k5 ?R117.k6 ?_; (case k1 => assumption); (case k2 => assumption); (case k3 => assumption); (case k4 => assumption); (case k5 => assumption); (case k6 => assumption); k_whole; intro h' R' U'; (try dsimp only at R' U' ⊢))
  | (refine' leave_onB ?R117.k1 ?R117.k2 ?R117.k3 ?R117.k4 ?_; (case k3 => assumption); (case k1 => assumption); (case k4 => assumption); (case k2 => assumption); k_whole; intro h' R' U'; (try dsimp only at R' U' ⊢)))
  k_with "setItem ref int" => (k_here; refine' bk_set ?R118.B ?R118.F ?R118.N ?R118.U ?R118.z ?_; (case F => k_asm); (case N => k_asm); (case U => k_updF); (case B => with_reducible assumption); (case z => omega); intro h' o' F' N' B')
  k_steps
  all_goals refine hret _ _ _ _ (by k_asm) (by k_asm) ⟨?_, rfl⟩
  all_goals unfold isLetS
  all_goals simp (discharger := with_reducible assumption) only [decide_eq_true_eq, *, decide_true, decide_false, not_true_eq_false, not_false_eq_true, Bool.not_true, Bool.not_false, Bool.and_true, Bool.and_false, Bool.true_and, Bool.false_and, Bool.or_true, Bool.or_false, Bool.true_or, Bool.false_or]
section

set_option maxHeartbeats 4000000 in
theorem c_capital (x : Str) (t : Tok) (hx : x.length ≤ 1000) (ha : x.cps.all (· < 128) = true) (hlow : ∀ z ∈ signsL x, z.cps.toList < (Str.ofString "a").cps.toList) : Ctr w mean mg mb 150 1 news [.str x t] (fun v nw => OneTok (capR x) v ∧ news = nw) NoExc := by
  intro dp un gd cn cs a ccd cl outer A₀ base h₀ L m s Q E B F X N T hk hd hu hret hexc
  refine wpAny_call ?_
  k_dflt cell_enter
  refine (let ak := _; (?_ : wpAny _ ak _ _ _ _))
  w_top off
  k_with_none
  k_with "execs cons" => ((try k_fold); refine wpAny_execs_cons ?_; refine (let sk := _; (?_ : wpAny _ _ _ _ _ sk)))
  k_with "eval Call" => (k_here; (with_reducible show wpAny _ _ (eval (Expr.Call (Expr.Name _ _) _ [] _) _) _ _ _); k_dflt (refine Call_ ?_))
  k_with "exec Raise some none" => (k_here; (refine' raise_B ?_ ?R114.hh); (case hh => k_dflt rfl))
  k_with "call ref" => (k_here; (try refine (?_ : wpAny _ (PySem.Around.deeper _ _) _ _ _ _)); (with_reducible show wpAny _ _ (PySem.call (Value.ref 34) _ _) _ _ _); refine' c_basic ?R115.b1 ?R115.b2 ?R115.b3 ?R115.b4 ?R115.b5 ?R115.b6 ?R115.b7 ?R115.b8 ?R115.b9 ?_; (case b1 => k_asm); (case b2 => k_asm); (case b3 => k_asm); (case b4 => k_asm); (case b5 => k_asm); (case b6 => rfl); (case b7 => rfl); (case b8 => first | rfl | assumption); (case b9 => ktr_room); intro e' dx' oD' ta' h' tk' F' N' d1' d2' d3')
  k_with "RaiseB" => (refine' ⟨_, _, _, rfl, ?R116.r1, ?R116.r2, ?_⟩; (case r1 => exact (News.get (by assumption) (.head _))); (case r2 => exact (Frag.In.keeps (by assumption) (Fr.keep (by assumption))) _ _ (by k_dflt k_is)))
  k_with "leaving ref" => (k_here; first
  | (refine' leave_newB ?R117.k1 ?R117.k2 ?R117.k3 ?R117.k4 ?R117.k5 ?R117.k6 ?_; (case k1 => assumption); (case k2 => assumption); (case k3 => assumption); (case k4 => assumption); (case k5 => assumption); (case k6 => assumption); k_whole; intro h' R' U'; (try dsimp only at R' U' ⊢))
  | (refine' leave_onB ?R117.k1 ?R117.k2 ?R117.k3 ?R117.k4 ?_; (case k3 => assumption); (case k1 => assumption); (case k4 => assumption); (case k2 => assumption); k_whole; intro h' R' U'; (try dsimp only at R' U' ⊢)))
  k_with "setItem ref int" => (k_here; refine' bk_set ?R118.B ?R118.F ?R118.N ?R118.U ?R118.z ?_; (case F => k_asm); (case N => k_asm); (case U => k_updF); (case B => with_reducible assumption); (case z => omega); intro h' o' F' N' B')
  k_with "StrEnd" => (k_dflt (exact ⟨_, _, _, rfl, rfl, by k_asm, by k_asm⟩))
  k_with "call builtin:str.join" => (k_here; k_dflt (refine' join_listW ?R120.hl ?R120.hi ?R120.hs ?R120.hw ?_; (case hl => exact News.isList (by k_asm) (by first | k_mem | exact .head _)); (case hi => assumption); (case hs => decide); (case hw => exact signs_weight (by with_reducible assumption))); intro t' k')
  k_with "eval ListComp" => (k_here; k_dflt (refine ListComp_signs (F₀ := by k_asm) (by with_unfolding_all rfl) (by decide) (by rfl) (by decide) (by rfl) ?_))
  k_with "SignSrc" => (k_here; k_dflt (refine' sign_src ?R122.hh ?R122.F ?R122.N ?R122.z ?R122.a ?R122.l ?_ ?_; (case hh => exact rfl); (case F => k_asm); (case N => k_asm); (case z => with_reducible assumption); (case a => with_reducible assumption); (case l => with_reducible assumption)); (all_goals first | (intro z' t' I' oI' C' oC' D' m' ys' h' tk' E' low' hC' hx' F' N' off' ne'; (try (simp only [LCg.Off3, and_true] at off'))) | (intro D' vs' h' tk' S' F' N' off')))
  k_steps
  exact hret _ _ _ _ (by k_asm) (News.cut1 (by with_reducible assumption)) ⟨⟨_, rfl⟩, rfl⟩
end

def wordsL : List Str := Txt.split (Str.ofString "LET PRINT USING INPUT LINE IF THEN ELSE GOTO GOSUB ON RETURN FOR TO STEP NEXT WHILE WEND DEF FNEND READ DATA RESTORE DIM ERASE OPTION BASE SWAP ERROR RESUME STOP END REM RANDOMIZE DEFINT DEFSNG DEFSTR MAT ZER CON IDN INV TRN OPEN OUTPUT APPEND RANDOM AS CLOSE FIELD LSET RSET GET PUT WRITE CHAIN COMMON TRON TROFF AND OR XOR EQV IMP NOT MOD") (Str.ofString " ")
def funsL : List Str := Txt.split (Str.ofString "ABS ASC CHR$ CINT CSNG CVI CVS EDIT$ EOF ERL ERR FIX FRE HEX$ INSTR INT LCASE$ LEFT$ LEN LOC LOF LPOS LTRIM$ MAX MID$ MIN MKI$ MKS$ OCT$ PI POS RIGHT$ RND RTRIM$ SEG$ SGN SPACE$ SPC SQR STR$ STRING$ SWAP% TAB UCASE$ VAL XLATE$") (Str.ofString " ")
def isWordB (x : Str) : Bool := wordsL.any (· == x) || funsL.any (· == x)
set_option maxHeartbeats 4000000 in
theorem c_functions : Ctr w mean mg mb 124 1 news [] (fun v nw => ∃ D vs, v = .ref D ∧ StrsAre vs funsL ∧ nw = (D, listOf vs.toArray 0) :: news ∧ ∀ p ∈ news, p.1 < D) NoExc := by
  intro dp un gd cn cs a ccd cl outer A₀ base h₀ L m s Q E B F X N T hk hd hu hret hexc
  refine wpAny_call ?_
  k_dflt cell_enter
  refine (let ak := _; (?_ : wpAny _ ak _ _ _ _))
  w_top off
  k_with_none
  k_with "execs cons" => ((try k_fold); refine wpAny_execs_cons ?_; refine (let sk := _; (?_ : wpAny _ _ _ _ _ sk)))
  k_with "eval Call" => (k_here; (with_reducible show wpAny _ _ (eval (Expr.Call (Expr.Name _ _) _ [] _) _) _ _ _); k_dflt (refine Call_ ?_))
  k_with "exec Raise some none" => (k_here; (refine' raise_B ?_ ?R114.hh); (case hh => k_dflt rfl))
  k_with "call ref" => (k_here; (try refine (?_ : wpAny _ (PySem.Around.deeper _ _) _ _ _ _)); (with_reducible show wpAny _ _ (PySem.call (Value.ref 34) _ _) _ _ _); refine' c_basic ?R115.b1 ?R115.b2 ?R115.b3 ?R115.b4 ?R115.b5 ?R115.b6 ?R115.b7 ?R115.b8 ?R115.b9 ?_; (case b1 => k_asm); (case b2 => k_asm); (case b3 => k_asm); (case b4 => k_asm); (case b5 => k_asm); (case b6 => rfl); (case b7 => rfl); (case b8 => first | rfl | assumption); (case b9 => ktr_room); intro e' dx' oD' ta' h' tk' F' N' d1' d2' d3')
  k_with "RaiseB" => (refine' ⟨_, _, _, rfl, ?R116.r1, ?R116.r2, ?_⟩; (case r1 => exact (News.get (by assumption) (.head _))); (case r2 => exact (Frag.In.keeps (by assumption) (Fr.keep (by assumption))) _ _ (by k_dflt k_is)))
  k_with "leaving ref" => (k_here; first
  | (refine' leave_newB ?R117.k1 ?R117.k2 ?R117.k3 ?R117.k4 ?R117.k5 ?R117.k6 ?_; (case k1 => assumption); (case k2 => assumption); (case k3 => assumption); (case k4 => assumption); (case k5 => assumption); (case k6 => assumption); k_whole; intro h' R' U'; (try dsimp only at R' U' ⊢))
  | (refine' leave_onB ?R117.k1 ?R117.k2 ?R117.k3 ?R117.k4 ?_; (case k3 => assumption); (case k1 => assumption); (case k4 => assumption); (case k2 => assumption); k_whole; intro h' R' U'; (try dsimp only at R' U' ⊢)))
  k_with "setItem ref int" => (k_here; refine' bk_set ?R118.B ?R118.F ?R118.N ?R118.U ?R118.z ?_; (case F => k_asm); (case N => k_asm); (case U => k_updF); (case B => with_reducible assumption); (case z => omega); intro h' o' F' N' B')
  k_with "call builtin:str.split" => (k_here; (with_reducible show wpAny _ _ (PySem.call (Value.builtin "str.split") [Value.str _ _, Value.str _ _]) _ _ _); refine' splitT ?R123.k1 ?R123.k2 ?R123.k3 ?R123.kx ?_ ?R123.k4; (case kx => exact Nat.le_refl _); (case k1 => k_asm); (case k2 => k_asm); (case k3 => decide); (case k4 => exact Nat.le_of_ble_eq_true rfl); intro D' l' h' k' a' F' N' l1 y1' y2'; (try k_lt l1))
  k_steps
  exact hret _ _ _ _ (by k_asm) (by with_reducible assumption) ⟨_, _, rfl, by assumption, rfl, by with_reducible assumption⟩

theorem word_one {x : Str} (h : wordsL.any (· == x) = true) : wordsL.any (· == x) = isWordB x := by unfold isWordB; rw [h]; rfl
theorem word_two {x : Str} (h : wordsL.any (· == x) = false) : funsL.any (· == x) = isWordB x := by unfold isWordB; rw [h]; rfl
set_option maxHeartbeats 4000000 in
theorem c_is_word (x : Str) (t : Tok) (hx : x.length ≤ 100) : Ctr w mean mg mb 131 3 news [.str x t] (fun v nw => v = .bool (isWordB x) ∧ news = nw) NoExc := by
  intro dp un gd cn cs a ccd cl outer A₀ base h₀ L m s Q E B F X N T hk hd hu hret hexc
  refine wpAny_call ?_
  k_dflt cell_enter
  refine (let ak := _; (?_ : wpAny _ ak _ _ _ _))
  w_top off
  k_with_none
  k_with "execs cons" => ((try k_fold); refine wpAny_execs_cons ?_; refine (let sk := _; (?_ : wpAny _ _ _ _ _ sk)))
  k_with "eval Call" => (k_here; (with_reducible show wpAny _ _ (eval (Expr.Call (Expr.Name _ _) _ [] _) _) _ _ _); k_dflt (refine Call_ ?_))
  k_with "exec Raise some none" => (k_here; (refine' raise_B ?_ ?R114.hh); (case hh => k_dflt rfl))
  k_with "call ref" => (k_here; (try refine (?_ : wpAny _ (PySem.Around.deeper _ _) _ _ _ _)); (with_reducible show wpAny _ _ (PySem.call (Value.ref 34) _ _) _ _ _); refine' c_basic ?R115.b1 ?R115.b2 ?R115.b3 ?R115.b4 ?R115.b5 ?R115.b6 ?R115.b7 ?R115.b8 ?R115.b9 ?_; (case b1 => k_asm); (case b2 => k_asm); (case b3 => k_asm); (case b4 => k_asm); (case b5 => k_asm); (case b6 => rfl); (case b7 => rfl); (case b8 => first | rfl | assumption); (case b9 => ktr_room); intro e' dx' oD' ta' h' tk' F' N' d1' d2' d3')
  k_with "RaiseB" => (refine' ⟨_, _, _, rfl, ?R116.r1, ?R116.r2, ?_⟩; (case r1 => exact (News.get (by assumption) (.head _))); (case r2 => exact (Frag.In.keeps (by assumption) (Fr.keep (by assumption))) _ _ (by k_dflt k_is)))
  k_with "leaving ref" => (k_here; first
  | (refine' leave_newB ?R117.k1 ?R117.k2 ?R117.k3 ?R117.k4 ?R117.k5 ?R117.k6 ?_; (case k1 => assumption); (case k2 => assumption); (case k3 => assumption); (case k4 => assumption); (case k5 => assumption); (case k6 => assumption); k_whole; intro h' R' U'; (try dsimp only at R' U' ⊢))
  | (refine' leave_onB ?R117.k1 ?R117.k2 ?R117.k3 ?R117.k4 ?_; (case k3 => assumption); (case k1 => assumption); (case k4 => assumption); (case k2 => assumption); k_whole; intro h' R' U'; (try dsimp only at R' U' ⊢)))
  k_with "setItem ref int" => (k_here; refine' bk_set ?R118.B ?R118.F ?R118.N ?R118.U ?R118.z ?_; (case F => k_asm); (case N => k_asm); (case U => k_updF); (case B => with_reducible assumption); (case z => omega); intro h' o' F' N' B')
  k_with "call builtin:str.split" => (k_here; (with_reducible show wpAny _ _ (PySem.call (Value.builtin "str.split") [Value.str _ _, Value.str _ _]) _ _ _); refine' splitT ?R123.k1 ?R123.k2 ?R123.k3 ?R123.kx ?_ ?R123.k4; (case kx => exact Nat.le_refl _); (case k1 => k_asm); (case k2 => k_asm); (case k3 => decide); (case k4 => exact Nat.le_of_ble_eq_true rfl); intro D' l' h' k' a' F' N' l1 y1' y2'; (try k_lt l1))
  k_with "call ref" => (k_here; (try refine (?_ : wpAny _ (PySem.Around.deeper _ _) _ _ _ _)); k_dflt (refine' Ctr.use0 c_functions ?R124.k1 ?R124.k2 ?R124.k3 ?R124.k4 ?R124.k5 ?R124.k6 ?R124.k7 ?R124.k8 ?_; tb_start); intro v' nw' h' tk' F' N' q'; obtain ⟨D', vs', q1, S', q2, l1⟩ := q'; subst q1 q2; (try dsimp only); (try k_lt l1))
  k_steps
  · exact hret _ _ _ _ (by k_asm) (News.cut1 (by with_reducible assumption)) ⟨congrArg Value.bool (word_one (by assumption)), rfl⟩
  · exact hret _ _ _ _ (by k_asm) (News.cut1 (News.cut1 (by with_reducible assumption))) ⟨congrArg Value.bool (word_two (by assumption)), rfl⟩
end
end Mine

end
section
open PySem PySem.W PyProof.Rows PySem.Calls
open PySem.Builtin PySem.Builtin.Str
set_option Elab.async false
set_option linter.all false
set_option maxRecDepth 100000
namespace Mine
def find4 (x y : Str) (i j : Int) : Int := match occurrences x y (fromIndex x.length i) (min (fromIndex x.length j) x.length) 1 with | k :: _ => (k : Int) | [] => -1
theorem gives_find4 (x y : Str) (i j : Int) (t u v v' : Tok) : Gives (Builtin.«str.find» ⟨[.str x t, .str y u, .int i v, .int j v'], []⟩) (.int (find4 x y i j)) := by
  unfold find4
  show Gives (match occurrences x y (fromIndex x.length i) (min (fromIndex x.length j) x.length) 1 with | k :: _ => retInt k | [] => (do rule "str.find.not-found"; retInt (-1))) _
  cases occurrences x y (fromIndex x.length i) (min (fromIndex x.length j) x.length) 1 with
  | nil => exact .rule (.of_eq rfl)
  | cons k _ => exact .of_eq rfl
theorem c_find4 {prog : Program} {w : World} {A : Around} {E : Value → Shared → Prop} {s : Shared} {x y : Str} {t u v v' : Tok} {i j : Int} {Q : Value → Shared → Prop}
  (hq : Q (.int (find4 x y i j) s.toks) { s with toks := s.toks + 1 }) : wpAny (model prog w) A (call (.builtin "str.find") [.str x t, .str y u, .int i v, .int j v']) Q E s :=
  call_gives PySem.F.slot_str_find (typeIs_str _ _ _) PySem.F.entry_str_find (PySem.F.args_str_find_4 _ _ _ _) (gives_find4 x y i j t u v v') hq
theorem iteT {c : Prop} [Decidable c] {A B : Prop} (h : c) (a : A) : if c then A else B := by rw [if_pos h]; exact a
theorem iteF {c : Prop} [Decidable c] {A B : Prop} (h : ¬ c) (a : B) : if c then A else B := by rw [if_neg h]; exact a
end Mine

end
section
open PySem PySem.W PyProof.Rows PySem.Calls
set_option Elab.async false
set_option linter.all false
set_option maxRecDepth 100000
namespace Mine
section
variable {prog : Program} {w : World} {A A₀ : Around} {E : Value → Shared → Prop} {s : Shared} {K : Frag} {L : Addr} {h₀ base : Heap} {m mg mb : Str → Option Value} {news : List (Addr × Obj)} {p : Program} {loose : List Str} {mean : ExcName → Option Value}
theorem News.nil {h : Heap} : News h₀ L h [] := fun _ hp => nomatch hp
/-- a call whose own ground is the whole heap of the caller: its ledger begins empty -/
theorem code_def0 {env : Env} {outer : List Env} {R : Result → Shared → Prop} {name qual : Str} {params : Arguments} {body : List Stmt} {scope : Scope} {dV kV doc pm cdv ct oc : Value} {an od : Option Addr} {osl : Array (Option Value)} {f : Addr} {args : Args} {binds : List (Str × Value)}
    (B : Below A₀ base outer h₀) (F : Fr h₀ L s.heap m) (X₀ : K.In h₀) (N : News h₀ L s.heap news) (T : Top p loose mean mg mb h₀) (hA : A.frames = some (env :: outer)) (hf : env.frame = some L) (hke : env.scope.kind = .function)
    (ho : K.lookup f = some ⟨oc, od, .func (fnOf name qual params body scope dV kV doc pm an cdv ct), osl⟩) (hcd : codeIn K cdv qual = true) (hroom : A.depth < recursionLimit)
    (hbind : BindsTo s (fnOf name qual params body scope dV kV doc pm an cdv ct) args binds) (hloc : ∀ y ∈ binds, scope.names.lookup y.1 = some .local)
    (h : ∀ g L' h₁, (∀ p ∈ news, g.get? p.1 = some p.2) → Fr h₀ L g m → Fr g L' h₁ (fun y => binds.reverse.lookup y) → News g L' h₁ [] → Below A base (env :: outer) g → K.In g → Top p loose mean mg mb g →
      wpAny (model prog w) (A.deeper (envOf qual scope L' f cdv)) (execs body (envOf qual scope L' f cdv))
        (fun fl s' => LeaveK h₀ L m g R (match fl with | .ret v => v | _ => .none) s')
        (fun e s' => wpAny (model prog w) (A.deeper (envOf qual scope L' f cdv)) (leaving (envOf qual scope L' f cdv) e) (fun _ s'' => R (.error e) s'') (fun e' s'' => R (.error e') s'') s')
        { s with heap := h₁, toks := s.toks + binds.length })
    (hco : scope.isCoroutine = false) (hgen : scope.isGenerator = false) (hk : scope.kind = .function)
    (hcell : ∀ x ∈ scope.names, x.2 ≠ .cell) : codeAny (model prog w) A (.call (.ref f) args) R s := by
  obtain ⟨FG, BG, st, lv⟩ := groundX (R := R) (news := []) B F News.nil hA hf hke
  refine codeAny_call_def (fd := fnOf name qual params body scope dV kV doc pm an cdv ct) (body := body) (binds := binds) hroom ((X₀.keeps F.keep) _ _ ho) rfl (T.nolimit.keeps F.keep) (codeRec_of (X₀.keeps F.keep) hcd) rfl hbind hcell hloc (fun h₁ hns hk₁ => ?_) hco hgen hk
  exact wpAny_mono (h s.heap s.heap.objs.size h₁ (fun p hp => (N p hp).1) FG ⟨hns, fun b o e => hk₁ b o e, Nat.le_refl _⟩ News.nil BG (X₀.keeps st) (T.keeps st)) (fun fl s' hl => lv _ _ hl) fun _ _ y => y
theorem News.back {g h h' : Heap} (N : News h₀ L h news) (hg : ∀ p ∈ news, g.get? p.1 = some p.2) {L' : Addr} {m' : Str → Option Value} (F : Fr g L' h' m') : News h₀ L h' news := fun p hp => ⟨F.keep _ _ (hg p hp), (N p hp).2⟩
end
end Mine

end
section
open PySem PySem.W PyProof.Rows PySem.Calls
set_option Elab.async false
set_option linter.all false
set_option maxRecDepth 100000
set_option rowWalk.seconds 0
namespace Mine

def readStep (b : Bk) (x : Str) : PR :=
  if (Txt.stripChars x (Str.ofString " \t\r") == Str.ofString "") = true then .ok b
  else match splitR (Txt.rstripChars x (Str.ofString "\r")) with
    | none => .sn
    | some (none, _) => .sn
    | some (some n, r) => if (r == Str.ofString "") = true then .ok (delB n b) else .ok (putB n r b)
section
variable {b : Bk} {x r : Str} {n : Int}
theorem readStep_skip (h : (Txt.stripChars x (Str.ofString " \t\r") == Str.ofString "") = true) : readStep b x = .ok b := if_pos h
theorem readStep_long (h : (Txt.stripChars x (Str.ofString " \t\r") == Str.ofString "") = false) (h2 : splitR (Txt.rstripChars x (Str.ofString "\r")) = none) : readStep b x = .sn := by
  unfold readStep; rw [if_neg (by rw [h]; decide), h2]
theorem readStep_none (h : (Txt.stripChars x (Str.ofString " \t\r") == Str.ofString "") = false) (h2 : splitR (Txt.rstripChars x (Str.ofString "\r")) = some (none, r)) : readStep b x = .sn := by
  unfold readStep; rw [if_neg (by rw [h]; decide), h2]
theorem readStep_del (h : (Txt.stripChars x (Str.ofString " \t\r") == Str.ofString "") = false) (h2 : splitR (Txt.rstripChars x (Str.ofString "\r")) = some (some n, r)) (h3 : (r == Str.ofString "") = true) : readStep b x = .ok (delB n b) := by
  unfold readStep; rw [if_neg (by rw [h]; decide), h2]; exact if_pos h3
theorem readStep_put (h : (Txt.stripChars x (Str.ofString " \t\r") == Str.ofString "") = false) (h2 : splitR (Txt.rstripChars x (Str.ofString "\r")) = some (some n, r)) (h3 : (r == Str.ofString "") = false) : readStep b x = .ok (putB n r b) := by
  unfold readStep; rw [if_neg (by rw [h]; decide), h2]; exact if_neg (by rw [h3]; decide)
end
def ReadOK (x : Str) : Prop := ∀ n r, splitR (Txt.rstripChars x (Str.ofString "\r")) = some (some n, r) → (r == Str.ofString "") = false → r ∈ tolds
theorem told_of {xs : List Str} {i : Nat} {y r : Str} {n : Int} (h : ∀ y ∈ xs, ReadOK y) (hi : xs[i]? = some y) (h2 : splitR (Txt.rstripChars y (Str.ofString "\r")) = some (some n, r)) (h3 : (r == Str.ofString "") = false) : r ∈ tolds := h y (List.mem_of_getElem? hi) n r h2 h3
section
variable {w : World} {mean : ExcName → Option Value} {mg mb : Str → Option Value} {news : Led}


def CanW (w : World) (mean : ExcName → Option Value) (mg mb : Str → Option Value) : Prop := ∀ z ∈ tolds, ∀ (t : Tok) (news : Led), Ctr w mean mg mb 262 14 news [.str z t] (fun v nw => OneTok z v ∧ news = nw) NoExc
theorem CanW.can (h : CanW w mean mg mb) (z : Str) (hz : z ∈ tolds) (t : Tok) (news : Led) : Ctr w mean mg mb 262 14 news [.str z t] (fun v nw => OneTok z v ∧ news = nw) NoExc := h z hz t news
set_option maxHeartbeats 4000000 in
theorem c_read_listing (hc : CanW w mean mg mb) (x : Str) (t : Tok) (hx : x.length ≤ 600) (hr : ∀ y ∈ Txt.split x (Str.ofString "\n"), ReadOK y) :
    Ctr w mean mg mb 295 16 news [.str x t] (fun v nw => ∃ D o b, foldR readStep [] (Txt.split x (Str.ofString "\n")) = .ok b ∧ v = .ref D ∧ IsBook w o b ∧ nw = (D, o) :: news ∧ ∀ p ∈ news, p.1 < D)
      (fun c => foldR readStep [] (Txt.split x (Str.ofString "\n")) = .sn ∧ excSN c) := by
  intro dp un gd cn cs a ccd cl outer A₀ base h₀ L m s Q E B F X N T hk hd' hu hret hexc
  refine wpAny_call ?_
  k_dflt cell_enter
  refine (let ak := _; (?_ : wpAny _ ak _ _ _ _))
  w_top off
  k_with_none
  k_with "execs cons" => ((try k_fold); refine wpAny_execs_cons ?_; refine (let sk := _; (?_ : wpAny _ _ _ _ _ sk)))
  k_with "eval Call" => (k_here; (with_reducible show wpAny _ _ (eval (Expr.Call (Expr.Name _ _) _ [] _) _) _ _ _); k_dflt (refine Call_ ?_))
  k_with "exec Raise some none" => (k_here; (refine' raise_B ?_ ?R126.hh); (case hh => k_dflt rfl))
  k_with "call ref" => (k_here; (try refine (?_ : wpAny _ (PySem.Around.deeper _ _) _ _ _ _)); (with_reducible show wpAny _ _ (PySem.call (Value.ref 34) _ _) _ _ _); refine' c_basic ?R127.b1 ?R127.b2 ?R127.b3 ?R127.b4 ?R127.b5 ?R127.b6 ?R127.b7 ?R127.b8 ?R127.b9 ?_; (case b1 => k_asm); (case b2 => k_asm); (case b3 => k_asm); (case b4 => k_asm); (case b5 => k_asm); (case b6 => rfl); (case b7 => rfl); (case b8 => first | rfl | assumption); (case b9 => ktr_room); intro e' dx' oD' ta' h' tk' F' N' d1' d2' d3')
  k_with "RaiseB" => (refine' ⟨_, _, _, rfl, ?R128.r1, ?R128.r2, ?_⟩; (case r1 => exact (News.get (by assumption) (.head _))); (case r2 => exact (Frag.In.keeps (by assumption) (Fr.keep (by assumption))) _ _ (by k_dflt k_is)))
  k_with "leaving ref" => (k_here; first
  | (refine' leave_newB ?R129.k1 ?R129.k2 ?R129.k3 ?R129.k4 ?R129.k5 ?R129.k6 ?_; (case k1 => assumption); (case k2 => assumption); (case k3 => assumption); (case k4 => assumption); (case k5 => assumption); (case k6 => assumption); k_whole; intro h' R' U'; (try dsimp only at R' U' ⊢))
  | (refine' leave_onB ?R129.k1 ?R129.k2 ?R129.k3 ?R129.k4 ?_; (case k3 => assumption); (case k1 => assumption); (case k4 => assumption); (case k2 => assumption); k_whole; intro h' R' U'; (try dsimp only at R' U' ⊢)))
  k_with "setItem ref int" => (k_here; refine' bk_set ?R130.B ?R130.F ?R130.N ?R130.U ?R130.z ?_; (case F => k_asm); (case N => k_asm); (case U => k_updF); (case B => with_reducible assumption); (case z => omega); intro h' o' F' N' B')
  k_with "getMethod ref" => (k_here; k_dflt (refine' getMethod_tab_any (knd := intKind _ _) (enc := PyData.int) ?R131.k1 ?R131.k2 ?_; (case k1 => exact rfl); (case k2 => exact IsBook.tab (by with_reducible assumption) (News.get (by k_asm) (by k_mem)) (by with_reducible assumption)); k_whole))
  k_with "exec For Name Name cons nil" => (k_here; (rename Fr _ _ _ _ => lF'); (with_unfolding_all refine' For_invVF lF' ?R132.k1 ?R132.k2 ?_; (case k1 => exact rfl); (case k2 => exact rfl); k_whole))
  k_with "exec For Name Call cons nil" => (k_here; (rename Fr _ _ _ _ => lF'); (with_unfolding_all refine' For_invVF lF' ?R133.k1 ?R133.k2 ?_; (case k1 => exact rfl); (case k2 => exact rfl); k_whole))
  k_with "call builtin:str.split" => (k_here; (with_reducible show wpAny _ _ (PySem.call (Value.builtin "str.split") [Value.str _ _, Value.str _ _]) _ _ _); refine' splitT ?R134.k1 ?R134.k2 ?R134.k3 ?R134.kx ?_ ?R134.k4; (case kx => with_reducible assumption); (case k1 => k_asm); (case k2 => k_asm); (case k3 => decide); (case k4 => (rw [sizeLine_eq]; omega)); intro D' l' h' k' a' F' N' l1 y1' y2'; (try k_lt l1))
  k_with "pyIter ref" => (k_here; k_dflt (refine' bk_loop (fd := Str.ofString "found") (fun xs i b => foldR readStep [] (xs.take i) = .ok b ∧ b.length ≤ i) (b := []) ?R135.k1 ?R135.k2 ?R135.k3 ?R135.k4 ?R135.k5 ?R135.k6 ?R135.k7 ?R135.k8 ?_ ?_; (case k1 => exact rfl); (case k5 => exact News.swap (by assumption)); (case k2 => exact .head _); (case k3 => assumption); (case k4 => k_asm); (case k6 => exact if_pos rfl); (case k7 => exact ⟨[], by assumption, by assumption⟩); (case k8 => exact ⟨rfl, Nat.le_refl _⟩)); (all_goals first | (intro i' y' t' b' o' m' h' tk' own' gi' off' jP' jB' F' N'; obtain ⟨jr', jl'⟩ := jP'; have gy' := get_lenN gi' (by assumption); have gl' := get_lt gi'; have ry' := rstrip_le y' (Str.ofString "\r"); have ne' := off_ne2 (cst_ne (by with_reducible assumption) (by with_reducible assumption)) off') | (intro b' o' m' h' tk' jP' jB' F' N'; obtain ⟨jr', jl'⟩ := jP'; rw [List.take_length] at jr')))
  k_with "call ref" => (k_here; (try refine (?_ : wpAny _ (PySem.Around.deeper _ _) _ _ _ _)); (with_reducible show wpAny _ _ (PySem.call (Value.ref 283) _ _) _ _ _); (try k_fold); refine' Ctr.use (c_split_number _ _ ?R136.p1) ?R136.k1 ?R136.k2 ?R136.k3 ?R136.k4 ?R136.k5 ?R136.k6 ?R136.k7 ?R136.k8 ?_ ?_; (case p1 => omega); tb_start; (all_goals first | (intro v' nw' h' tk' F' N' q'; obtain ⟨⟨r1', r2'⟩, q0, ql, D', va', t', q1, q2, l1, q3⟩ := q'; subst q1 q2; (dsimp only at ql q3 N'); (try k_lt l1); rcases r1' with _ | n'; (all_goals first | subst q3 | (obtain ⟨tn', q3⟩ := q3; subst q3))) | (intro e' c' g' h' tk' U' F' R' q'; obtain ⟨q0, tq, q1⟩ := q'; subst q1)); (all_goals (try dsimp only)))
  k_with "call builtin:dict.pop" => (k_here; (with_reducible show wpAny _ _ (PySem.call (Value.builtin "dict.pop") [Value.ref _, Value.int _ _, Value.none]) _ _ _); refine' bk_popN ?R137.B ?R137.F ?R137.N ?R137.U ?R137.z ?R137.D ?R137.l ?_; (case F => k_asm); (case N => k_asm); (case U => k_updF); (case B => with_reducible assumption); (case z => omega); (case D => exact News.get (by k_asm) (by k_mem)); (case l => with_reducible assumption); intro h' o' v' tk' F' N' B')
  k_with "call ref" => (k_here; (try refine (?_ : wpAny _ (PySem.Around.deeper _ _) _ _ _ _)); (with_reducible show wpAny _ _ (PySem.call (Value.ref 262) _ _) _ _ _); (try k_fold); k_dflt (refine' Ctr.use0 (CanW.can (by with_reducible assumption) _ ?R138.p1 _ _) ?R138.k1 ?R138.k2 ?R138.k3 ?R138.k4 ?R138.k5 ?R138.k6 ?R138.k7 ?R138.k8 ?_; (case p1 => exact told_of (by with_reducible assumption) (by with_reducible assumption) (by with_reducible assumption) (by with_reducible assumption)); tb_start; intro v' nw' h' tk' F' N' q'; obtain ⟨⟨t', q1⟩, q2⟩ := q'; subst q1 q2; (try dsimp only)))
  k_steps
  · exact bk_end (by assumption) (by k_asm) (by k_dflt rfl) (by with_reducible assumption) ⟨foldR_ok (by with_reducible assumption) (by with_reducible assumption) (readStep_skip (by with_reducible assumption)), by omega⟩ (fun p hp => hp) (by assumption) (.head _)
  · exact hexc _ _ _ _ _ (by assumption) (by assumption) (RaisedB.fewer (by assumption) (fun p hp => .tail _ (.tail _ (List.mem_append.mpr (.inl (.tail _ hp)))))) ⟨foldR_sn (by with_reducible assumption) (by with_reducible assumption) (readStep_none (by with_reducible assumption) (by with_reducible assumption)), _, rfl⟩
  · exact bk_end (by assumption) (by k_asm) (by k_dflt rfl) (by with_reducible assumption) ⟨foldR_ok (by with_reducible assumption) (by with_reducible assumption) (readStep_del (by with_reducible assumption) (by with_reducible assumption) (by with_reducible assumption)), Nat.le_trans (delB_len _ _) (by omega)⟩ (fun p hp => .tail _ hp) (by assumption) (.head _)
  · exact bk_end (by assumption) (by k_asm) (by k_dflt rfl) (by with_reducible assumption) ⟨foldR_ok (by with_reducible assumption) (by with_reducible assumption) (readStep_put (by with_reducible assumption) (by with_reducible assumption) (by with_reducible assumption)), Nat.le_trans (putB_len _ _ _) (by omega)⟩ (fun p hp => .tail _ hp) (by assumption) (.head _)
  · exact hexc _ _ _ _ _ (by assumption) (by assumption) (RaisedB.fewer (by assumption) (fun p hp => .tail _ (List.mem_append.mpr (.inl (.tail _ hp))))) ⟨foldR_sn (by with_reducible assumption) (by with_reducible assumption) (readStep_long (by with_reducible assumption) (by with_reducible assumption)), _, rfl⟩
  · exact hret _ _ _ _ (by k_asm) (News.cut2 (by with_reducible assumption)) ⟨_, _, _, by with_reducible assumption, rfl, by with_reducible assumption, rfl, by with_reducible assumption⟩
end
end Mine

end
section
open PySem PySem.W PyProof.Rows PySem.Calls
set_option Elab.async false
set_option linter.all false
set_option maxRecDepth 100000
set_option rowWalk.seconds 0
namespace Mine
section
variable {w : World} {mean : ExcName → Option Value} {mg mb : Str → Option Value} {news : Led}


set_option maxHeartbeats 4000000 in
theorem c_taken (j cl : Addr) (c c2 : Nat) (vs : List Value) (ns : List Int) (k : Int) (t t2 : Tok) (b : Int) (hb : b = 5 ∨ b = 6 ∨ b = 8) (hi : IntsAre vs ns) (hn : ns.length ≤ 15) (hk0 : 0 ≤ k) (hk1 : k ≤ 1000) (hne : ∀ p ∈ (cl, listOf vs.toArray c2) :: news, p.1 ≠ j) :
    Ctr w mean mg mb 302 1 ((j, listOf #[.ref cl, .int k t] c) :: (cl, listOf vs.toArray c2) :: news) [.ref j, .int b t2]
      (fun v nw => ∃ n t' t3 c', v = .int n t' ∧ 0 ≤ n ∧ n < b ∧ nw = (j, listOf #[.ref cl, .int (k + 1) t3] c') :: (cl, listOf vs.toArray c2) :: news) NoExc := by
  intro dp un gd cn cs a ccd clo outer A₀ base h₀ L m s Q E B F X N T hk hd' hu hret hexc
  refine wpAny_call ?_
  k_dflt cell_enter
  refine (let ak := _; (?_ : wpAny _ ak _ _ _ _))
  w_top off
  k_with_none
  k_with "execs cons" => ((try k_fold); refine wpAny_execs_cons ?_; refine (let sk := _; (?_ : wpAny _ _ _ _ _ sk)))
  k_with "eval Call" => (k_here; (with_reducible show wpAny _ _ (eval (Expr.Call (Expr.Name _ _) _ [] _) _) _ _ _); k_dflt (refine Call_ ?_))
  k_with "exec Raise some none" => (k_here; (refine' raise_B ?_ ?R140.hh); (case hh => k_dflt rfl))
  k_with "call ref" => (k_here; (try refine (?_ : wpAny _ (PySem.Around.deeper _ _) _ _ _ _)); (with_reducible show wpAny _ _ (PySem.call (Value.ref 34) _ _) _ _ _); refine' c_basic ?R141.b1 ?R141.b2 ?R141.b3 ?R141.b4 ?R141.b5 ?R141.b6 ?R141.b7 ?R141.b8 ?R141.b9 ?_; (case b1 => k_asm); (case b2 => k_asm); (case b3 => k_asm); (case b4 => k_asm); (case b5 => k_asm); (case b6 => rfl); (case b7 => rfl); (case b8 => first | rfl | assumption); (case b9 => ktr_room); intro e' dx' oD' ta' h' tk' F' N' d1' d2' d3')
  k_with "RaiseB" => (refine' ⟨_, _, _, rfl, ?R142.r1, ?R142.r2, ?_⟩; (case r1 => exact (News.get (by assumption) (.head _))); (case r2 => exact (Frag.In.keeps (by assumption) (Fr.keep (by assumption))) _ _ (by k_dflt k_is)))
  k_with "leaving ref" => (k_here; first
  | (refine' leave_newB ?R143.k1 ?R143.k2 ?R143.k3 ?R143.k4 ?R143.k5 ?R143.k6 ?_; (case k1 => assumption); (case k2 => assumption); (case k3 => assumption); (case k4 => assumption); (case k5 => assumption); (case k6 => assumption); k_whole; intro h' R' U'; (try dsimp only at R' U' ⊢))
  | (refine' leave_onB ?R143.k1 ?R143.k2 ?R143.k3 ?R143.k4 ?_; (case k3 => assumption); (case k1 => assumption); (case k4 => assumption); (case k2 => assumption); k_whole; intro h' R' U'; (try dsimp only at R' U' ⊢)))
  k_with "setItem ref int" => (k_here; k_dflt (refine' ki_set ?R144.F ?R144.N ?R144.a ?R144.b ?R144.e (Upd.head ?R144.U) ?_; (case F => k_asm); (case N => k_asm); (case U => with_reducible assumption); (case a => decide); (case b => decide); (case e => rfl)); intro h' F' N'; (try dsimp only [List.nil_append, List.cons_append] at N'))
  k_steps
  all_goals
    have hb0 : 0 < b := by rcases hb with rfl | rfl | rfl <;> decide
    exact hret _ _ _ _ (by k_asm) (by with_reducible assumption) ⟨_, _, _, _, rfl, Int.fmod_nonneg_of_pos _ hb0, Int.fmod_lt_of_pos _ hb0, rfl⟩
end
end Mine

end
section
open PySem PySem.W PyProof.Rows PySem.Calls
set_option Elab.async false
set_option linter.all false
set_option maxRecDepth 100000
namespace Mine
theorem cons_sep {c : Nat} : ∀ {a b r s : List Nat}, c ∉ a → c ∉ b → a ++ c :: r = b ++ c :: s → a = b ∧ r = s
  | [], [], r, s, _, _, h => ⟨rfl, by simpa using h⟩
  | [], y :: b, r, s, _, hb, h => by
    simp only [List.nil_append, List.cons_append, List.cons.injEq] at h
    exact absurd (by rw [h.1]; exact .head _) hb
  | x :: a, [], r, s, ha, _, h => by
    simp only [List.nil_append, List.cons_append, List.cons.injEq] at h
    exact absurd (by rw [← h.1]; exact .head _) ha
  | x :: a, y :: b, r, s, ha, hb, h => by
    simp only [List.cons_append, List.cons.injEq] at h
    obtain ⟨e1, e2⟩ := cons_sep (fun q => ha (.tail _ q)) (fun q => hb (.tail _ q)) h.2
    exact ⟨by rw [h.1, e1], e2⟩
theorem cps_append (x y : Str) : (x ++ y).cps.toList = x.cps.toList ++ y.cps.toList := by
  show (x.cps ++ y.cps).toList = _
  simp
theorem str_ext {x y : Str} (h : x.cps.toList = y.cps.toList) : x = y := Str.ext' (Array.toList_inj.mp h)
theorem join_cons2 (y a b : Str) (r : List Str) : Str.join y (a :: b :: r) = a ++ y ++ Str.join y (b :: r) := rfl
theorem join_inj (c : Nat) : ∀ (a b : List Str), a.length = b.length → (∀ t ∈ a, c ∉ t.cps.toList) → (∀ t ∈ b, c ∉ t.cps.toList) → Str.join ⟨#[c]⟩ a = Str.join ⟨#[c]⟩ b → a = b
  | [], [], _, _, _, _ => rfl
  | [x], [y], _, _, _, h => by rw [show x = y from h]
  | x :: x' :: r, y :: y' :: s, hl, ha, hb, h => by
    rw [join_cons2, join_cons2] at h
    have h' := congrArg (fun z : Str => z.cps.toList) h
    simp only [cps_append, List.append_assoc] at h'
    obtain ⟨e1, e2⟩ := cons_sep (ha _ (.head _)) (hb _ (.head _)) h'
    have e3 := join_inj c (x' :: r) (y' :: s) (by simpa using hl) (fun t m => ha t (.tail _ m)) (fun t m => hb t (.tail _ m)) (str_ext e2)
    rw [str_ext e1, e3]
theorem split_join (c : Nat) (l : List Str) (hne : l ≠ []) (hf : ∀ t ∈ l, c ∉ t.cps.toList) : Txt.split (Str.join ⟨#[c]⟩ l) ⟨#[c]⟩ = l := by
  have h1 := split_len (Str.join ⟨#[c]⟩ l) c
  have h0 : cnt c (⟨#[c]⟩ : Str).cps.toList = 1 := by
    show cnt c [c] = 1
    rw [cnt_cons, cnt_nil]; simp
  rw [cnt_join ⟨#[c]⟩ c h0 l hf] at h1
  have hp : 1 ≤ l.length := by cases l with | nil => exact absurd rfl hne | cons a r => simp
  exact join_inj c _ _ (by omega) (StrLaws.split_free _ c) hf (StrLaws.join_split _ _)
def Free (c : Nat) (l : List Str) : Bool := l.all fun t => !(t.cps.toList.contains c)
theorem Free.all {c : Nat} {l : List Str} (h : Free c l = true) : ∀ t ∈ l, c ∉ t.cps.toList := fun t m q => by
  unfold Free at h
  have := List.all_eq_true.mp h t m
  simp [List.contains_iff_mem] at this
  exact this (by simpa using q)
theorem allLt_all {d : Addr} {l : List (Addr × Obj)} (h : AllLt d l) : ∀ p ∈ l, p.1 < d := by
  induction l with
  | nil => intro p m; cases m
  | cons a r ih =>
    intro p m
    unfold AllLt at h
    rcases List.mem_cons.mp m with e | e
    · rw [e]; exact h.1
    · exact ih h.2 p e
end Mine

end
section
open PySem PySem.W PyProof.Rows PySem.Calls
set_option Elab.async false
set_option linter.all false
set_option maxRecDepth 100000
namespace Mine
section
variable {A₀ : Around} {base g G B h₅ h₀ h : Heap} {outer : List Env} {L L' a : Addr} {m m' : Str → Option Value} {name : Str} {scope : Scope} {cd : Value} {news : Led}

theorem groundB (K : Below A₀ base outer g) (F : Fr g L G m) (hBG : ∀ b o, g.get? b = some o → b ∉ outer.filterMap (·.frame) → B.get? b = some o) (hBh : B.StaysIn h₅) (hsm : G.UpToSlots h₅) :
    ∃ g', KtsTurn (outer.filterMap (·.frame)) g g' ∧ Fr g' L h₅ m ∧ Below A₀ base outer g' := by
  obtain ⟨T, S⟩ := kts_turn_at (h := h₅) (fs := outer.filterMap (·.frame)) (g := g)
    (fun b hb => by
      obtain ⟨_, o, ho, _⟩ := K.frames.mem hb
      exact ⟨o, ho⟩)
    (fun b o e nm => hBh b o (hBG b o e nm))
    (fun b o e hm => by
      obtain ⟨_, o', ho', hd⟩ := K.frames.mem hm
      rw [e] at ho'
      cases ho'
      exact hsm b o (F.keep b o e) hd)
  refine ⟨_, T, ⟨hsm.ns F.ns, S, by rw [T.size]; exact F.above⟩, ⟨K.stack, fun b o e => T.other b o (K.stays b o e) (fun hm => by
    rw [(K.frames.mem hm).1] at e
    cases e), K.frames.of_keeps fun b o e _ => ?_⟩⟩
  obtain ⟨sl, hs⟩ := T.up e
  exact ⟨_, hs, rfl⟩

theorem turn_back {g' : Heap} (FG : Fr h₀ L g m) (T : KtsTurn [L] g g') (F' : Fr g' L' h m') (N' : News g' L' h news) : Fr h₀ L h m ∧ News h₀ L h news := by
  have nL : h₀.get? L = none := kts_self FG
  have kp : ∀ b o, h₀.get? b = some o → g'.get? b = some o := fun b o e => T.other b o (FG.keep b o e) (fun q => by
    rcases List.mem_singleton.mp q with rfl
    rw [nL] at e; cases e)
  obtain ⟨oL, es, ep, hL, hLd, hLk, hLf⟩ := FG.ns
  obtain ⟨sl, hs⟩ := T.frame L oL hL (.head _)
  refine ⟨⟨⟨_, es, ep, F'.keep _ _ hs, hLd, hLk, hLf⟩, fun b o e => F'.keep b o (kp b o e), FG.above⟩, fun p hp => ⟨(N' p hp).1, fun q => ?_, ?_⟩⟩
  · have := (N' p hp).2.2
    rw [q, hs] at this; cases this
  · cases q : h₀.get? p.1 with
    | none => rfl
    | some o => have := (N' p hp).2.2; rw [kp _ _ q] at this; cases this
end

section
variable {w : World} {A₀ : Around} {E : Value → Shared → Prop} {s' : Shared} {base g G : Heap} {outer : List Env} {L a e : Addr} {c : Value} {m mg mb : Str → Option Value} {name : Str} {scope : Scope} {cd : Value}
  {n : Str} {b₀ : Stmt} {suite : List Stmt} {pos np : Pos} {rest : List ExceptHandler} {Q : Flow → Shared → Prop} {news : Led} {mean : ExcName → Option Value}

theorem caught_B (K : Below A₀ base outer g) (F : Fr g L G m) (U : G.UpToSlots s'.heap) (R : RaisedB (hideAll g (outer.filterMap (·.frame))) (envOf name scope L a cd :: outer) e c news s'.heap)
    (XB : (pre.heap_1 w.params).In base) (TB : Top view0 LL mean mg mb base)
    (k : ∀ h' g' tk dx oD ta tb v, KtsTurn (outer.filterMap (·.frame)) g g' → Fr g' L h' (fun y => if y = n then some (.ref e) else m y) → News g' L h' ((e, flyObj dx ta tb) :: (dx, oD) :: news) → DictHas oD (errMap c v) → Below A₀ base outer g' → (pre.heap_1 w.params).In g' → Top view0 LL mean mg mb g' →
      wpAny (model PG w) ((A₀.deeper (envOf name scope L a cd)).mark (some (.ref e))) (execs (b₀ :: suite) (envOf name scope L a cd))
        (fun f s₄ => wpAny (model PG w) (A₀.deeper (envOf name scope L a cd)) (do bindName (envOf name scope L a cd) n .none; unbindBehindTheSuite (envOf name scope L a cd) n pos) (fun _ s₅ => Q f s₅) E s₄)
        (AsSuiteRaised (model PG w) ((A₀.deeper (envOf name scope L a cd)).mark (some (.ref e))) (envOf name scope L a cd) n pos (notedBy (model PG w) ((A₀.deeper (envOf name scope L a cd)).mark (some (.ref e))) (envOf name scope L a cd) (cameBackBy (model PG w) (A₀.deeper (envOf name scope L a cd)) (envOf name scope L a cd) E)))
        { s' with heap := h', toks := tk })
    (hk : scope.kind = .function := by rfl) (hlo : (envOf name scope L a cd).kindOf n = some .local := by rfl) (hx : (envOf name scope L a cd).kindOf (Str.ofString "BasicError") = some .globalImplicit := by rfl) :
    wpAny (model PG w) (A₀.deeper (envOf name scope L a cd)) (noteFrame (.ref e) (envOf name scope L a cd))
      (fun _ s₂ => wpAny (model PG w) (A₀.deeper (envOf name scope L a cd)) (setFlight (.ref e) none) (fun _ s₃ =>
        wpAny (model PG w) (A₀.deeper (envOf name scope L a cd)) (handleBy (.ref e) (envOf name scope L a cd) (.ExceptHandler (some (.Name (Str.ofString "BasicError") np)) (some n) (b₀ :: suite) pos :: rest)) Q E s₃) E s₂) E s' := by
  obtain ⟨B, dx, oD, v, hB, hl, hfl, hdx, hbd, hD⟩ := R
  have hL : B.get? L = none := by
    obtain ⟨_, ⟨L', _, hf, hn', _⟩, _⟩ := hfl.2.2.1
    obtain rfl : L = L' := Option.some.inj hf
    exact hn'
  have hfr : ∀ b ∈ outer.filterMap (·.frame), B.get? b = none := fun b hb => by
    have : b ∈ (envOf name scope L a cd :: outer).filterMap (·.frame) := by
      obtain ⟨env, he, hf⟩ := List.mem_filterMap.mp hb
      exact List.mem_filterMap.mpr ⟨env, .tail _ he, hf⟩
    exact (hfl.2.2.1.mem this).1
  have hBG : ∀ b o, g.get? b = some o → b ∉ outer.filterMap (·.frame) → B.get? b = some o := fun b o e nm => hB b o (hideAll_get _ e nm)
  refine b_note_on (Around.frames_deeper K.stack) rfl hfl fun h₄ hfl₄ hsm₄ => ?_
  refine b_flight hfl₄ fun h₅ hfl₅ hsm₅' => ?_
  have hsm₅ := U.trans (hsm₄.trans hsm₅')
  obtain ⟨g₅, T₅, F₅, K₅⟩ := groundB K F hBG hfl₅.1 hsm₅
  have X₅ : (pre.heap_1 w.params).In g₅ := XB.keeps K₅.stays
  have P₅ : TopRead view0 LL mg mb g₅ := topRead_of (TB.keeps K₅.stays)
  have e34 : (pre.heap_1 w.params).lookup 34 = some cls34 := by rfl
  have hC₅ := F₅.keep _ _ (X₅ _ _ e34)
  obtain ⟨ta, T, oT, ts, hob, _⟩ := id hfl₅.2.2.2
  refine wpAny_handleBy_cons (codeAny_handlers_test (name_K (v := .ref 34) F₅ X₅ P₅ ?_ ?_ hk hx (by decide))) (by intro q; cases q)
  · rfl
  refine wpAny_excMatches_sub_self hC₅ hob rfl (by simp [xbm]) (codeAny_handlers_suite_as ?_)
  refine b_flight hfl₅ fun h₆ hfl₆ hsm₆' => ?_
  have hsm₆ := hsm₅.trans hsm₆'
  obtain ⟨g₆, T₆, F₆, K₆⟩ := groundB K F hBG hfl₆.1 hsm₆
  obtain ⟨ta6, T6, oT6, ts6, he6, _⟩ := id hfl₆.2.2.2
  have none6 : ∀ b, (hideAll g (outer.filterMap (·.frame))).get? b = none → b ∉ outer.filterMap (·.frame) → g₆.get? b = none := fun b hb nm => T₆.none_ _ (by
    cases q : g.get? b with
    | none => rfl
    | some o => rw [hideAll_get _ q nm] at hb; cases hb)
  have ne₆ : g₆.get? e = none := T₆.none_ _ (by
    cases q : g.get? e with
    | none => rfl
    | some o =>
      by_cases hm : e ∈ outer.filterMap (·.frame)
      · obtain ⟨_, o', ho', hd⟩ := K.frames.mem hm
        rw [q] at ho'
        cases ho'
        obtain ⟨sl, hs⟩ := hsm₆ _ _ (F.keep _ _ q) hd
        rw [he6] at hs
        exact absurd (congrArg Obj.data (Option.some.inj hs)).symm (hd _)
      · have := hBG e o q hm
        rw [hfl₆.2.1] at this
        cases this)
  have isnt : ∀ b o, B.get? b = some o → b ∉ outer.filterMap (·.frame) := fun b o e hm => by
    rw [hfr b hm] at e; cases e
  have Nl : News g₆ L h₆ ((dx, oD) :: news) := fun q hq => by
    have z : B.get? q.1 = some q.2 ∧ (hideAll g (outer.filterMap (·.frame))).get? q.1 = none := by
      rcases List.mem_cons.mp hq with rfl | hq
      · exact ⟨hdx, hbd⟩
      · exact hl q hq
    exact ⟨hfl₆.1 _ _ z.1, (fun y => by have := z.1; rw [y, hL] at this; cases this), none6 _ z.2 (isnt _ _ z.1)⟩
  have N₆ := News.more F₆ Nl he6 (fun es n q => by cases q) ne₆
  have X₆ : (pre.heap_1 w.params).In g₆ := XB.keeps K₆.stays
  have P₆ : Top view0 LL mean mg mb g₆ := TB.keeps K₆.stays
  refine stN F₆ N₆ (fun h₇ F₇ N₇ => ?_) hk hlo
  exact k h₇ g₆ _ _ _ _ _ v T₆ F₇ N₇ hD K₆ X₆ P₆
end
end Mine

end
section
open PySem PySem.W PyProof.Rows PySem.Calls
set_option Elab.async false
set_option linter.all false
set_option maxRecDepth 100000
namespace Mine
open Sem (wp)
theorem nsK_ex2 {w : World} : ∃ mN : Str → Option Value, (∀ {h : Heap}, (pre.heap_1 w.params).In h → h.Ns 33 mN) ∧ mN (Str.ofString "__getattribute__") = none ∧ mN (Str.ofString "__getattr__") = none ∧ mN (Str.ofString "code") = none := by
  have e33 : ∃ es ep, (pre.heap_1 w.params).lookup 33 = some ⟨.type "dict", none, .dict es ep, #[]⟩ ∧ StrKeys es ∧ nsFind es (Str.ofString "__getattribute__") = none ∧ nsFind es (Str.ofString "__getattr__") = none ∧ nsFind es (Str.ofString "code") = none := by
    refine ⟨_, _, rfl, ?_, rfl, rfl, rfl⟩
    intro e he
    simp only [List.mem_toArray, List.mem_cons, List.not_mem_nil, or_false] at he
    rcases he with rfl | rfl | rfl | rfl | rfl | rfl <;> exact ⟨_, _, rfl⟩
  obtain ⟨es, ep, a1, a2, a3⟩ := e33
  exact ⟨nsFind es, fun {h} X => ⟨_, es, ep, X _ _ a1, rfl, a2, fun _ => rfl⟩, a3⟩
theorem mro_xbm : mroOf (.type "Exception") = pure xbm := by kernel_rfl
theorem lk_code : typeLookup (.type "Exception") (Str.ofString "code") = pure none := by rw [typeLookup_type, builtinLookup_eq_fast]; kernel_rfl
theorem lk_getattr : typeLookup (.type "Exception") (Str.ofString "__getattr__") = pure none := by rw [typeLookup_type, builtinLookup_eq_fast]; kernel_rfl

section
variable {w : World} {A : Around} {E : Value → Shared → Prop} {h : Heap} {g : Array GenState} {d : Drawn} {t : Nat} {os : OsState} {e dx : Addr} {ta tb c v : Value} {oD : Obj} {mN : Str → Option Value} {expr : Bool}
theorem code_entry {tk : Tok} {Q : Fin → Shared → Prop} (hC : h.get? 34 = some cls34) (hN : h.Ns 33 mN) (n3 : mN (Str.ofString "code") = none) (hx : h.get? e = some (flyObj dx ta tb)) (hdx : h.Ns1 dx (errMap c v)) (hh : handedOut c = pure c)
    (hq : Q (.done (.ret c)) ⟨h, g, d, t, os⟩) : wpAny (model PG w) A (Builtin.«object.__getattribute__» ⟨[.ref e, .str (Str.ofString "code") tk], []⟩) Q E ⟨h, g, d, t, os⟩ := by
  have hv : errMap c v (Str.ofString "code") = some c := rfl
  unfold Builtin.«object.__getattribute__»
  repeat (any_goals (first | assumption | (with_reducible refine wpAny_nsGet hdx.ns ?_; rw [hv]) | (with_reducible refine wpAny_loadPart_at hx ?_) | (with_reducible refine wpAny_typeLookup_exc hC hN mro_xbm lk_code ?_; rw [n3]) | wp_step))
theorem load_code {Q : Value → Shared → Prop} (hC : h.get? 34 = some cls34) (hN : h.Ns 33 mN) (n1 : mN (Str.ofString "__getattribute__") = none) (n2 : mN (Str.ofString "__getattr__") = none) (n3 : mN (Str.ofString "code") = none) (hx : h.get? e = some (flyObj dx ta tb)) (hdx : h.Ns1 dx (errMap c v)) (hh : handedOut c = pure c)
    (hq : Q c ⟨h, g, d, t + 1, os⟩) : wpAny (model PG w) A (getAttr (.ref e) (Str.ofString "code") expr) Q E ⟨h, g, d, t, os⟩ := by
  have FB := F.attrBase_Exception
  have f3 := FB.ga.bind (.ref e)
  have hx0 : (expr && onTheHeap (Value.builtin "BaseException.__getattribute__")) = false := by cases expr <;> rfl
  have hx2 : (Value.builtin "BaseException.__getattribute__" == Value.builtin "object.__getattribute__") = false := by decide +kernel
  have hx1 : (onTheHeap (Value.ref 34) && Value.builtin "BaseException.__getattribute__" == Value.builtin "object.__getattribute__") = false := by rw [hx2]; rfl
  unfold getAttr
  repeat (any_goals (first | assumption | (with_reducible refine wpAny_loadPart_at hx ?_) | (with_reducible refine wpAny_typeLookup_exc hC hN mro_xbm FB.ga.lookup ?_; rw [n1]) | (with_reducible refine wpAny_typeLookup_exc hC hN mro_xbm lk_getattr ?_; rw [n2]) | wp_step))
  refine codeAny_call_builtin FB.ga.plain F.entry_bexc_ga (wpAny_check_ga_own FB hC OwnTailQ.base hx rfl (code_entry hC hN n3 hx hdx hh ?_))
  repeat (any_goals (first | assumption | wp_step))
  all_goals rw [hh]
  all_goals exact wpAny_pure hq
end
end Mine

end
section
open PySem PySem.W PyProof.Rows PySem.Calls
set_option Elab.async false
set_option linter.all false
set_option maxRecDepth 100000
set_option rowWalk.seconds 0
namespace Mine
section
variable {w : World} {mean : ExcName → Option Value} {mg mb : Str → Option Value} {news : Led}


section
variable {prog : Program} {w : World} {A A₀ : Around} {E : Value → Shared → Prop} {s : Shared} {K : Frag} {L : Addr} {h₀ base g : Heap} {m mg mb : Str → Option Value} {news : List (Addr × Obj)} {p : Program} {loose : List Str} {mean : ExcName → Option Value} {outer : List Env}
theorem below_rebase (K : Below A₀ base outer g) : Below A₀ (hideAll g (outer.filterMap (·.frame))) outer g :=
  ⟨K.stack, fun _ _ e => of_hideAll _ e, funFrames_hide K.frames fun env he b hb => List.mem_filterMap.mpr ⟨env, he, hb⟩⟩
theorem code_defH {env : Env} {outer : List Env} {R : Result → Shared → Prop} {name qual : Str} {params : Arguments} {body : List Stmt} {scope : Scope} {dV kV doc pm cdv ct oc : Value} {an od : Option Addr} {osl : Array (Option Value)} {f : Addr} {args : Args} {binds : List (Str × Value)}
    (B : Below A₀ base outer h₀) (F : Fr h₀ L s.heap m) (X₀ : K.In h₀) (N : News h₀ L s.heap news) (T : Top p loose mean mg mb h₀) (hA : A.frames = some (env :: outer)) (hf : env.frame = some L) (hke : env.scope.kind = .function)
    (ho : K.lookup f = some ⟨oc, od, .func (fnOf name qual params body scope dV kV doc pm an cdv ct), osl⟩) (hcd : codeIn K cdv qual = true) (hroom : A.depth < recursionLimit)
    (hbind : BindsTo s (fnOf name qual params body scope dV kV doc pm an cdv ct) args binds) (hloc : ∀ y ∈ binds, scope.names.lookup y.1 = some .local)
    (h : ∀ g L' h₁, Fr h₀ L g m → Fr g L' h₁ (fun y => binds.reverse.lookup y) → News g L' h₁ news → Below A base (env :: outer) g → K.In g → Top p loose mean mg mb g →
      wpAny (model prog w) (A.deeper (envOf qual scope L' f cdv)) (execs body (envOf qual scope L' f cdv))
        (fun fl s' => R (.ok (.ret (match fl with | .ret v => v | _ => .none))) s')
        (fun e s' => wpAny (model prog w) (A.deeper (envOf qual scope L' f cdv)) (leaving (envOf qual scope L' f cdv) e) (fun _ s'' => R (.error e) s'') (fun e' s'' => R (.error e') s'') s')
        { s with heap := h₁, toks := s.toks + binds.length })
    (hco : scope.isCoroutine = false) (hgen : scope.isGenerator = false) (hk : scope.kind = .function)
    (hcell : ∀ x ∈ scope.names, x.2 ≠ .cell) : codeAny (model prog w) A (.call (.ref f) args) R s := by
  obtain ⟨FG, BG, st, lv⟩ := groundX (R := R) (news := news) B F N hA hf hke
  refine codeAny_call_def (fd := fnOf name qual params body scope dV kV doc pm an cdv ct) (body := body) (binds := binds) hroom ((X₀.keeps F.keep) _ _ ho) rfl (T.nolimit.keeps F.keep) (codeRec_of (X₀.keeps F.keep) hcd) rfl hbind hcell hloc (fun h₁ hns hk₁ => ?_) hco hgen hk
  refine wpAny_mono (h (hideAll s.heap (news.map (·.1))) s.heap.objs.size h₁ FG ⟨hns, fun b o e => hk₁ b o (of_hideAll _ e), ?_⟩ (fun q hq => ⟨hk₁ _ _ (N q hq).1, fun z => ?_, hideAll_none _ (List.mem_map.mpr ⟨q, hq, rfl⟩)⟩) BG (X₀.keeps fun b o e => st b o e) (T.keeps fun b o e => st b o e)) (fun fl s' hl => hl) fun _ _ y => y
  · exact Nat.le_of_eq (hideAll_size _ _)
  · have := Heap.lt_size (N q hq).1
    rw [z] at this
    exact Nat.lt_irrefl _ this
end
set_option maxHeartbeats 4000000 in
theorem c_heard {f : Addr} (hf : f = 56 ∨ f = 295 ∨ f = 115) {d : Nat} {x : Value} {post : Value → Led → Prop} {exc : Value → Prop} (cX : Ctr w mean mg mb f d news [x] post exc) (hexcv : ∀ v, exc v → handedOut v = pure v) :
  ∀ (dp un : Nat) (gd : Option (List Code)) (cn : Str) (cs : Scope) (a : Addr) (ccd : Value) (cl : List (Str × Addr)) (A₀ : Around) (h₀ : Heap) (L : Addr) (m : Str → Option Value) (s : Shared) (Q E : Value → Shared → Prop),
    Below A₀ h₀ [] h₀ → Fr h₀ L s.heap m → (pre.heap_1 w.params).In h₀ → News h₀ L s.heap news → Top view0 LL mean mg mb h₀ → cs.kind = .function → dp + (d + 2) < recursionLimit → un + 8 * (d + 2) < cLine →
    (∀ v news' h' tk', Fr h₀ L h' m → News h₀ L h' news' → (post v news' ∨ (exc v ∧ news' = news)) → Q v { s with heap := h', toks := tk' }) →
    wpAny (model PG w) (ktrTop dp un gd cn cs L a ccd cl []) (call (.ref 316) [.ref f, x]) Q E s := by
  intro dp un gd cn cs a ccd cl A₀ h₀ L m s Q E B F X N T hk hd' hu hret
  have XB := X
  have TB := T
  refine wpAny_call ?_
  k_dflt (refine' code_defH ?k1 ?k2 ?k3 ?k4 ?k5 ?kA ?kF ?kK ?k6 ?k7 ?k8 ?k9 ?kB ?_ ?c2 ?c3 ?c4 ?c5; (case kA => exact rfl); (case kF => exact rfl); (case kK => assumption); (case k1 => k_asm); (case k2 => k_asm); (case k3 => k_asm); (case k4 => k_asm); (case k5 => k_asm); (case k6 => k_is); (case k7 => k_is); (case k8 => ktr_room); (case k9 => exact BindsTo.of_eq rfl); (case c5 => decide); (case kB => exact locs rfl); (case c2 => exact rfl); (case c3 => exact rfl); (case c4 => exact rfl); k_whole; intro g' L' h' FG' F' N' B' X' T'; (try dsimp only); (try k_lift B'); (try k_fold))
  have B2 := below_rebase B'
  obtain ⟨mN, nsK, n1, n2, n3⟩ := nsK_ex2 (w := w)
  have KB := And.intro B' True.intro
  clear B'
  w_top off
  k_with_none
  k_with "execs cons" => ((try k_fold); refine wpAny_execs_cons ?_; refine (let sk := _; (?_ : wpAny _ _ _ _ _ sk)))
  k_with "eval Call" => (k_here; (with_reducible show wpAny _ _ (eval (Expr.Call (Expr.Name _ _) _ [] _) _) _ _ _); k_dflt (refine Call_ ?_))
  k_with "exec Raise some none" => (k_here; (refine' raise_B ?_ ?R146.hh); (case hh => k_dflt rfl))
  k_with "call ref" => (k_here; (try refine (?_ : wpAny _ (PySem.Around.deeper _ _) _ _ _ _)); (with_reducible show wpAny _ _ (PySem.call (Value.ref 34) _ _) _ _ _); refine' c_basic ?R147.b1 ?R147.b2 ?R147.b3 ?R147.b4 ?R147.b5 ?R147.b6 ?R147.b7 ?R147.b8 ?R147.b9 ?_; (case b1 => k_asm); (case b2 => k_asm); (case b3 => k_asm); (case b4 => k_asm); (case b5 => k_asm); (case b6 => rfl); (case b7 => rfl); (case b8 => first | rfl | assumption); (case b9 => ktr_room); intro e' dx' oD' ta' h' tk' F' N' d1' d2' d3')
  k_with "RaiseB" => (refine' ⟨_, _, _, rfl, ?R148.r1, ?R148.r2, ?_⟩; (case r1 => exact (News.get (by assumption) (.head _))); (case r2 => exact (Frag.In.keeps (by assumption) (Fr.keep (by assumption))) _ _ (by k_dflt k_is)))
  k_with "leaving ref" => (k_here; first
  | (refine' leave_newB ?R149.k1 ?R149.k2 ?R149.k3 ?R149.k4 ?R149.k5 ?R149.k6 ?_; (case k1 => assumption); (case k2 => assumption); (case k3 => assumption); (case k4 => assumption); (case k5 => assumption); (case k6 => assumption); k_whole; intro h' R' U'; (try dsimp only at R' U' ⊢))
  | (refine' leave_onB ?R149.k1 ?R149.k2 ?R149.k3 ?R149.k4 ?_; (case k3 => assumption); (case k1 => assumption); (case k4 => assumption); (case k2 => assumption); k_whole; intro h' R' U'; (try dsimp only at R' U' ⊢)))
  k_with "call ref" => (k_here; (try refine (?_ : wpAny _ (PySem.Around.deeper _ _) _ _ _ _)); (with_reducible show wpAny _ _ (PySem.call (Value.ref _) [_] _) _ _ _); (try k_fold); (rename Ctr _ _ _ _ _ _ _ _ _ _ => cX); refine' Ctr.use cX ?R150.k1 ?R150.k2 ?R150.k3 ?R150.k4 ?R150.k5 ?R150.k6 ?R150.k7 ?R150.k8 ?_ ?_; tb_start; (all_goals first | (intro v' nw' h' tk' F' N' q') | (intro e' c' g' h' tk' U' F' R' q')); (all_goals (try dsimp only)))
  rcases hf with rfl | rfl | rfl
  all_goals k_steps
  all_goals first
    | (refine hret _ _ _ _ (turn_back FG' KtsTurn.refl (by assumption) (by assumption)).1 (turn_back FG' KtsTurn.refl (by assumption) (by assumption)).2 (.inl (by with_reducible assumption)); done)
    | skip
  all_goals
    refine caught_B KB.1 (by assumption) (by assumption) (by assumption) XB TB ?_
    intro h6 g6 tk6 dx oD ta tb v T6 F6 N6 D6 B6 X6 P6
    k_steps
  all_goals
    refine load_code ((X6.keeps F6.keep) _ _ (by rfl)) (nsK (X6.keeps F6.keep)) n1 n2 n3 (N6 _ (.head _)).1 (D6.ns1 (N6 _ (.tail _ (.head _))).1) (hexcv _ (by assumption)) ?_
    dsimp only
    k_steps
  all_goals exact hret _ news _ _ (turn_back FG' T6 (by assumption) (by assumption)).1 (fun p hp => (turn_back FG' T6 (by assumption) (by assumption)).2 p (.tail _ (.tail _ hp))) (.inr ⟨by with_reducible assumption, rfl⟩)
end
end Mine

end
section
open PySem PySem.W PyProof.Rows PySem.Calls
set_option Elab.async false
set_option linter.all false
set_option maxRecDepth 100000
set_option rowWalk.seconds 0
namespace Mine
section
variable {w : World} {mean : ExcName → Option Value} {mg mb : Str → Option Value} {news : Led}


def tokText (k x : Str) : Str := if (k == Str.ofString "text") = true then Str.ofString "\"" ++ x ++ Str.ofString "\"" else if (k == Str.ofString "rem") = true then (if (x != Str.ofString "") = true then Str.ofString "REM " ++ x else Str.ofString "REM") else x
def isNameC (c : Str) : Bool := isLetS c || isFigS c || c == Str.ofString "."
def nameEnd (x : Str) (i : Int) : Int := if (([Str.ofString "%", Str.ofString "$", Str.ofString "!"].any fun y => y == Txt.slice x (some (endOf isNameC x i)) (some (endOf isNameC x i + 1))) && (Txt.slice x (some (endOf isNameC x i)) (some (endOf isNameC x i + 1)) != Str.ofString "")) = true then endOf isNameC x i + 1 else endOf isNameC x i
section
variable {x : Str} {i n : Int} (hn : 0 ≤ n) (he : endOf isNameC x n = endOf isNameC x i) (hs : n < x.length → isNameC (Txt.item x n) = false)
include hn he hs
theorem nameEnd_t (h1 : ([Str.ofString "%", Str.ofString "$", Str.ofString "!"].any fun y => y == Txt.slice x (some n) (some (n + 1))) = true) (h2 : (Txt.slice x (some n) (some (n + 1)) != Str.ofString "") = true) : n + 1 = nameEnd x i := by
  have e : n = endOf isNameC x i := (endOf_stop hn hs).symm.trans he
  unfold nameEnd
  rw [← e, h1, h2]; rfl
theorem nameEnd_f1 (h1 : ([Str.ofString "%", Str.ofString "$", Str.ofString "!"].any fun y => y == Txt.slice x (some n) (some (n + 1))) = true) (h2 : (Txt.slice x (some n) (some (n + 1)) != Str.ofString "") = false) : n = nameEnd x i := by
  have e : n = endOf isNameC x i := (endOf_stop hn hs).symm.trans he
  unfold nameEnd
  rw [← e, h1, h2]; rfl
theorem nameEnd_f2 (h1 : ([Str.ofString "%", Str.ofString "$", Str.ofString "!"].any fun y => y == Txt.slice x (some n) (some (n + 1))) = false) : n = nameEnd x i := by
  have e : n = endOf isNameC x i := (endOf_stop hn hs).symm.trans he
  unfold nameEnd
  rw [← e, h1]; rfl
end
section
set_option maxHeartbeats 4000000 in
theorem c_name_end (x : Str) (t : Tok) (i : Int) (t2 : Tok) (h0 : 0 ≤ i) (hx : x.length ≤ 1000) : Ctr w mean mg mb 185 2 news [.str x t, .int i t2] (fun v nw => ∃ n t, v = .int n t ∧ n = nameEnd x i ∧ news = nw) NoExc := by
  intro dp un gd cn cs a ccd cl outer A₀ base h₀ L m s Q E B F X N T hk hd' hu hret hexc
  refine wpAny_call ?_
  k_dflt cell_enter
  refine (let ak := _; (?_ : wpAny _ ak _ _ _ _))
  w_top off
  k_with_none
  k_with "execs cons" => ((try k_fold); refine wpAny_execs_cons ?_; refine (let sk := _; (?_ : wpAny _ _ _ _ _ sk)))
  k_with "eval Call" => (k_here; (with_reducible show wpAny _ _ (eval (Expr.Call (Expr.Name _ _) _ [] _) _) _ _ _); k_dflt (refine Call_ ?_))
  k_with "exec Raise some none" => (k_here; (refine' raise_B ?_ ?R152.hh); (case hh => k_dflt rfl))
  k_with "call ref" => (k_here; (try refine (?_ : wpAny _ (PySem.Around.deeper _ _) _ _ _ _)); (with_reducible show wpAny _ _ (PySem.call (Value.ref 34) _ _) _ _ _); refine' c_basic ?R153.b1 ?R153.b2 ?R153.b3 ?R153.b4 ?R153.b5 ?R153.b6 ?R153.b7 ?R153.b8 ?R153.b9 ?_; (case b1 => k_asm); (case b2 => k_asm); (case b3 => k_asm); (case b4 => k_asm); (case b5 => k_asm); (case b6 => rfl); (case b7 => rfl); (case b8 => first | rfl | assumption); (case b9 => ktr_room); intro e' dx' oD' ta' h' tk' F' N' d1' d2' d3')
  k_with "RaiseB" => (refine' ⟨_, _, _, rfl, ?R154.r1, ?R154.r2, ?_⟩; (case r1 => exact (News.get (by assumption) (.head _))); (case r2 => exact (Frag.In.keeps (by assumption) (Fr.keep (by assumption))) _ _ (by k_dflt k_is)))
  k_with "leaving ref" => (k_here; first
  | (refine' leave_newB ?R155.k1 ?R155.k2 ?R155.k3 ?R155.k4 ?R155.k5 ?R155.k6 ?_; (case k1 => assumption); (case k2 => assumption); (case k3 => assumption); (case k4 => assumption); (case k5 => assumption); (case k6 => assumption); k_whole; intro h' R' U'; (try dsimp only at R' U' ⊢))
  | (refine' leave_onB ?R155.k1 ?R155.k2 ?R155.k3 ?R155.k4 ?_; (case k3 => assumption); (case k1 => assumption); (case k4 => assumption); (case k2 => assumption); k_whole; intro h' R' U'; (try dsimp only at R' U' ⊢)))
  k_with "call ref" => (k_here; (try refine (?_ : wpAny _ (PySem.Around.deeper _ _) _ _ _ _)); (with_reducible show wpAny _ _ (PySem.call (Value.ref 138) _ _) _ _ _); (try k_fold); k_dflt (refine' Ctr.use0 (c_is_letter _ _) ?R156.k1 ?R156.k2 ?R156.k3 ?R156.k4 ?R156.k5 ?R156.k6 ?R156.k7 ?R156.k8 ?_; tb_start; intro v' nw' h' tk' F' N' q'; obtain ⟨q1, q2⟩ := q'; subst q1 q2; (try dsimp only)))
  k_with "call ref" => (k_here; (try refine (?_ : wpAny _ (PySem.Around.deeper _ _) _ _ _ _)); (with_reducible show wpAny _ _ (PySem.call (Value.ref 145) _ _) _ _ _); (try k_fold); k_dflt (refine' Ctr.use0 (c_is_figure _ _) ?R157.k1 ?R157.k2 ?R157.k3 ?R157.k4 ?R157.k5 ?R157.k6 ?R157.k7 ?R157.k8 ?_; tb_start; intro v' nw' h' tk' F' N' q'; obtain ⟨q1, q2⟩ := q'; subst q1 q2; (try dsimp only)))
  k_with "exec While" => k_while_given ["row", "at!"] (fun row a0 _ at' => 0 ≤ at' ∧ endOf isNameC row at' = endOf isNameC row a0) (fun row a0 _ at' => row.length - at'.toNat) "at"
  k_with "state" => first | exact ⟨by omega, rfl⟩ | exact ⟨by omega, (endOf_step (by omega) (by assumption) (by simp_all [isNameC])).trans (by assumption)⟩
  k_steps
  all_goals
    refine hret _ news _ _ (by k_asm) (News.cut1 (by with_reducible assumption)) ⟨_, _, rfl, ?_, rfl⟩
    first
      | exact nameEnd_t (by with_reducible assumption) (by with_reducible assumption) (fun h => by first | omega | simp_all [isNameC]) (by with_reducible assumption) (by with_reducible assumption)
      | exact nameEnd_f1 (by with_reducible assumption) (by with_reducible assumption) (fun h => by first | omega | simp_all [isNameC]) (by with_reducible assumption) (by with_reducible assumption)
      | exact nameEnd_f2 (by with_reducible assumption) (by with_reducible assumption) (fun h => by first | omega | simp_all [isNameC]) (by with_reducible assumption)

set_option maxHeartbeats 4000000 in
theorem c_token_text (T : Addr) (k x : Str) (t t2 : Tok) (o : Obj) (hx : x.length ≤ 1000) (ho : o = { cls := .type "tuple", data := .seq #[.str k t, .str x t2] 0 }) (hm : (T, o) ∈ news) : Ctr w mean mg mb 241 2 news [.ref T] (fun v nw => ∃ t, v = .str (tokText k x) t ∧ news = nw) NoExc := by
  intro dp un gd cn cs a ccd cl outer A₀ base h₀ L m s Q E B F X N T hk hd' hu hret hexc
  refine wpAny_call ?_
  k_dflt cell_enter
  refine (let ak := _; (?_ : wpAny _ ak _ _ _ _))
  w_top off
  k_with_none
  k_with "execs cons" => ((try k_fold); refine wpAny_execs_cons ?_; refine (let sk := _; (?_ : wpAny _ _ _ _ _ sk)))
  k_with "eval Call" => (k_here; (with_reducible show wpAny _ _ (eval (Expr.Call (Expr.Name _ _) _ [] _) _) _ _ _); k_dflt (refine Call_ ?_))
  k_with "exec Raise some none" => (k_here; (refine' raise_B ?_ ?R152.hh); (case hh => k_dflt rfl))
  k_with "call ref" => (k_here; (try refine (?_ : wpAny _ (PySem.Around.deeper _ _) _ _ _ _)); (with_reducible show wpAny _ _ (PySem.call (Value.ref 34) _ _) _ _ _); refine' c_basic ?R153.b1 ?R153.b2 ?R153.b3 ?R153.b4 ?R153.b5 ?R153.b6 ?R153.b7 ?R153.b8 ?R153.b9 ?_; (case b1 => k_asm); (case b2 => k_asm); (case b3 => k_asm); (case b4 => k_asm); (case b5 => k_asm); (case b6 => rfl); (case b7 => rfl); (case b8 => first | rfl | assumption); (case b9 => ktr_room); intro e' dx' oD' ta' h' tk' F' N' d1' d2' d3')
  k_with "RaiseB" => (refine' ⟨_, _, _, rfl, ?R154.r1, ?R154.r2, ?_⟩; (case r1 => exact (News.get (by assumption) (.head _))); (case r2 => exact (Frag.In.keeps (by assumption) (Fr.keep (by assumption))) _ _ (by k_dflt k_is)))
  k_with "leaving ref" => (k_here; first
  | (refine' leave_newB ?R155.k1 ?R155.k2 ?R155.k3 ?R155.k4 ?R155.k5 ?R155.k6 ?_; (case k1 => assumption); (case k2 => assumption); (case k3 => assumption); (case k4 => assumption); (case k5 => assumption); (case k6 => assumption); k_whole; intro h' R' U'; (try dsimp only at R' U' ⊢))
  | (refine' leave_onB ?R155.k1 ?R155.k2 ?R155.k3 ?R155.k4 ?_; (case k3 => assumption); (case k1 => assumption); (case k4 => assumption); (case k2 => assumption); k_whole; intro h' R' U'; (try dsimp only at R' U' ⊢)))
  k_with "call ref" => (k_here; (try refine (?_ : wpAny _ (PySem.Around.deeper _ _) _ _ _ _)); (with_reducible show wpAny _ _ (PySem.call (Value.ref 138) _ _) _ _ _); (try k_fold); k_dflt (refine' Ctr.use0 (c_is_letter _ _) ?R156.k1 ?R156.k2 ?R156.k3 ?R156.k4 ?R156.k5 ?R156.k6 ?R156.k7 ?R156.k8 ?_; tb_start; intro v' nw' h' tk' F' N' q'; obtain ⟨q1, q2⟩ := q'; subst q1 q2; (try dsimp only)))
  k_with "call ref" => (k_here; (try refine (?_ : wpAny _ (PySem.Around.deeper _ _) _ _ _ _)); (with_reducible show wpAny _ _ (PySem.call (Value.ref 145) _ _) _ _ _); (try k_fold); k_dflt (refine' Ctr.use0 (c_is_figure _ _) ?R157.k1 ?R157.k2 ?R157.k3 ?R157.k4 ?R157.k5 ?R157.k6 ?R157.k7 ?R157.k8 ?_; tb_start; intro v' nw' h' tk' F' N' q'; obtain ⟨q1, q2⟩ := q'; subst q1 q2; (try dsimp only)))
  subst ho
  k_steps
  all_goals refine hret _ _ _ _ (by k_asm) (by k_asm) ⟨_, congrArg (Value.str · _) ?_, rfl⟩
  all_goals simp (discharger := with_reducible assumption) only [tokText, *, if_true, if_false, Bool.false_eq_true]


set_option maxHeartbeats 4000000 in
theorem c_data_end (t : Tok) (t2 : Tok) : Ctr w mean mg mb 206 2 news [.str (Str.ofString "DATA 1, 2") t, .int 4 t2] (fun v nw => ∃ t, v = .int 9 t ∧ news = nw) NoExc := by
  intro dp un gd cn cs a ccd cl outer A₀ base h₀ L m s Q E B F X N T hk hd' hu hret hexc
  refine wpAny_call ?_
  k_dflt cell_enter
  refine (let ak := _; (?_ : wpAny _ ak _ _ _ _))
  w_top off
  k_with_none
  k_with "execs cons" => ((try k_fold); refine wpAny_execs_cons ?_; refine (let sk := _; (?_ : wpAny _ _ _ _ _ sk)))
  k_with "eval Call" => (k_here; (with_reducible show wpAny _ _ (eval (Expr.Call (Expr.Name _ _) _ [] _) _) _ _ _); k_dflt (refine Call_ ?_))
  k_with "exec Raise some none" => (k_here; (refine' raise_B ?_ ?R152.hh); (case hh => k_dflt rfl))
  k_with "call ref" => (k_here; (try refine (?_ : wpAny _ (PySem.Around.deeper _ _) _ _ _ _)); (with_reducible show wpAny _ _ (PySem.call (Value.ref 34) _ _) _ _ _); refine' c_basic ?R153.b1 ?R153.b2 ?R153.b3 ?R153.b4 ?R153.b5 ?R153.b6 ?R153.b7 ?R153.b8 ?R153.b9 ?_; (case b1 => k_asm); (case b2 => k_asm); (case b3 => k_asm); (case b4 => k_asm); (case b5 => k_asm); (case b6 => rfl); (case b7 => rfl); (case b8 => first | rfl | assumption); (case b9 => ktr_room); intro e' dx' oD' ta' h' tk' F' N' d1' d2' d3')
  k_with "RaiseB" => (refine' ⟨_, _, _, rfl, ?R154.r1, ?R154.r2, ?_⟩; (case r1 => exact (News.get (by assumption) (.head _))); (case r2 => exact (Frag.In.keeps (by assumption) (Fr.keep (by assumption))) _ _ (by k_dflt k_is)))
  k_with "leaving ref" => (k_here; first
  | (refine' leave_newB ?R155.k1 ?R155.k2 ?R155.k3 ?R155.k4 ?R155.k5 ?R155.k6 ?_; (case k1 => assumption); (case k2 => assumption); (case k3 => assumption); (case k4 => assumption); (case k5 => assumption); (case k6 => assumption); k_whole; intro h' R' U'; (try dsimp only at R' U' ⊢))
  | (refine' leave_onB ?R155.k1 ?R155.k2 ?R155.k3 ?R155.k4 ?_; (case k3 => assumption); (case k1 => assumption); (case k4 => assumption); (case k2 => assumption); k_whole; intro h' R' U'; (try dsimp only at R' U' ⊢)))
  k_with "call ref" => (k_here; (try refine (?_ : wpAny _ (PySem.Around.deeper _ _) _ _ _ _)); (with_reducible show wpAny _ _ (PySem.call (Value.ref 138) _ _) _ _ _); (try k_fold); k_dflt (refine' Ctr.use0 (c_is_letter _ _) ?R156.k1 ?R156.k2 ?R156.k3 ?R156.k4 ?R156.k5 ?R156.k6 ?R156.k7 ?R156.k8 ?_; tb_start; intro v' nw' h' tk' F' N' q'; obtain ⟨q1, q2⟩ := q'; subst q1 q2; (try dsimp only)))
  k_with "call ref" => (k_here; (try refine (?_ : wpAny _ (PySem.Around.deeper _ _) _ _ _ _)); (with_reducible show wpAny _ _ (PySem.call (Value.ref 145) _ _) _ _ _); (try k_fold); k_dflt (refine' Ctr.use0 (c_is_figure _ _) ?R157.k1 ?R157.k2 ?R157.k3 ?R157.k4 ?R157.k5 ?R157.k6 ?R157.k7 ?R157.k8 ?_; tb_start; intro v' nw' h' tk' F' N' q'; obtain ⟨q1, q2⟩ := q'; subst q1 q2; (try dsimp only)))
  k_with "ite" => (k_here; first | (refine' iteT ?R158.h ?_; (case h => decide +kernel)) | (refine' iteF ?R158.h ?_; (case h => decide +kernel)))
  k_with "subscriptTail Name Name str int" => (k_here; k_dflt (refine item_str (by decide +kernel) (by decide +kernel) (by decide +kernel) ?_); intro _)
  k_steps
  exact hret _ _ _ _ (by k_asm) (by k_asm) ⟨_, congrArg (Value.int · _) (show (4 + 1 + 1 + 1 + 1 + 1 : Int) = 9 by decide), rfl⟩

end
end
end Mine

end
section
open PySem PySem.W PyProof.Rows PySem.Calls
set_option Elab.async false
set_option linter.all false
set_option maxRecDepth 100000
set_option rowWalk.seconds 0
namespace Mine
section
variable {w : World} {mean : ExcName → Option Value} {mg mb : Str → Option Value} {news : Led}



abbrev tokObj (k x : Str) (t t2 : Tok) : Obj := { cls := .type "tuple", data := .seq #[.str k t, .str x t2] 0 }
theorem News.put {h₀ h : Heap} {L : Addr} {q : Addr × Obj} {l : Led} (hq : q ∈ l) (N : News h₀ L h l) : News h₀ L h (q :: l) := fun p hp => by
  rcases List.mem_cons.mp hp with e | e
  · rw [e]; exact N q hq
  · exact N p e

set_option maxHeartbeats 4000000 in
theorem c_nb0 (A1 A2 : Addr) (a b c d : Tok) (h1 : (A1, tokObj (Str.ofString "word") (Str.ofString "PRINT") a b) ∈ news) (h2 : (A2, tokObj (Str.ofString "name") (Str.ofString "A") c d) ∈ news) : Ctr w mean mg mb 248 12 news [.ref A1, .ref A2] (fun v nw => v = .bool true ∧ news = nw) NoExc := by
  intro dp un gd cn cs a ccd cl outer A₀ base h₀ L m s Q E B F X N T hk hd' hu hret hexc
  have hret' : ∀ v h' tk', Fr h₀ L h' m → News h₀ L h' news → v = .bool true → Q v { s with heap := h', toks := tk' } := fun v h' tk' F' N' e => hret v news h' tk' F' N' ⟨e, rfl⟩
  clear hret hexc
  have N := News.put (.tail _ h1) (News.put h2 N)
  refine wpAny_call ?_
  k_dflt cell_enter
  w_top off
  k_with_none
  k_with "execs cons" => ((try k_fold); refine wpAny_execs_cons ?_; refine (let sk := _; (?_ : wpAny _ _ _ _ _ sk)))
  k_with "eval Call" => (k_here; (with_reducible show wpAny _ _ (eval (Expr.Call (Expr.Name _ _) _ [] _) _) _ _ _); k_dflt (refine Call_ ?_))
  k_with "exec Raise some none" => (k_here; (refine' raise_B ?_ ?R161.hh); (case hh => k_dflt rfl))
  k_with "call ref" => (k_here; (with_reducible show wpAny _ _ (PySem.call (Value.ref 34) _ _) _ _ _); refine' c_basic ?R162.b1 ?R162.b2 ?R162.b3 ?R162.b4 ?R162.b5 ?R162.b6 ?R162.b7 ?R162.b8 ?R162.b9 ?_; (case b1 => k_asm); (case b2 => k_asm); (case b3 => k_asm); (case b4 => k_asm); (case b5 => k_asm); (case b6 => rfl); (case b7 => rfl); (case b8 => first | rfl | assumption); (case b9 => ktr_room); intro e' dx' oD' ta' h' tk' F' N' d1' d2' d3')
  k_with "RaiseB" => (refine' ⟨_, _, _, rfl, ?R163.r1, ?R163.r2, ?_⟩; (case r1 => exact (News.get (by assumption) (.head _))); (case r2 => exact (Frag.In.keeps (by assumption) (Fr.keep (by assumption))) _ _ (by k_dflt k_is)))
  k_with "leaving ref" => (k_here; first
  | (refine' leave_newB ?R164.k1 ?R164.k2 ?R164.k3 ?R164.k4 ?R164.k5 ?R164.k6 ?_; (case k1 => assumption); (case k2 => assumption); (case k3 => assumption); (case k4 => assumption); (case k5 => assumption); (case k6 => assumption); k_whole; intro h' R' U'; (try dsimp only at R' U' ⊢))
  | (refine' leave_onB ?R164.k1 ?R164.k2 ?R164.k3 ?R164.k4 ?_; (case k3 => assumption); (case k1 => assumption); (case k4 => assumption); (case k2 => assumption); k_whole; intro h' R' U'; (try dsimp only at R' U' ⊢)))
  k_with "ite" => (k_here; first | (refine' iteT ?R165.h ?_; (case h => decide +kernel)) | (refine' iteF ?R165.h ?_; (case h => decide +kernel)))
  k_with "compareOp In str ref" => (k_here; (with_reducible show wpAny _ _ (PySem.compareOp CmpOp.In (Value.str _ _) (Value.ref 117)) _ _ _); k_dflt (refine' in_tuple_strs ?R166.k1 ?R166.k2 ?_; (case k1 => exact ⟨_, (Frag.In.keeps (by assumption) (Fr.keep (by assumption))) 117 _ (by k_dflt k_is), rfl, _, rfl⟩); (case k2 => exact .cons _ _ (.cons _ _ (.cons _ _ .nil)))))
  k_with "compareOp Eq ref ref" => (k_here; k_dflt (refine' eq_dataH (by ke_read) (by ke_read) (by ke_shaped) (by ke_shaped) ?R167.u ?_; (case u => first | ktr_units | (show un + 8 + 8 + 64 < cLine; omega) | (show un + 16 + 64 < cLine; omega) | ke_room)); ke_norm)
  k_with "compareOp NotEq ref ref" => (k_here; k_dflt (refine' ne_dataH (by ke_read) (by ke_read) (by ke_shaped) (by ke_shaped) ?R168.u ?_; (case u => first | ktr_units | (show un + 8 + 8 + 64 < cLine; omega) | (show un + 16 + 64 < cLine; omega) | ke_room)); ke_norm)
  k_steps
  all_goals first
    | exact hret' _ _ _ (by k_asm) (News.cut1 (News.cut1 (by with_reducible assumption))) (congrArg Value.bool (by decide +kernel))
    | exact hret' _ _ _ (by k_asm) (News.cut1 (News.cut1 (News.cut1 (by with_reducible assumption)))) (congrArg Value.bool (by decide +kernel))
    | exact hret' _ _ _ (by k_asm) (News.cut1 (News.cut1 (News.cut1 (News.cut1 (by with_reducible assumption))))) (congrArg Value.bool (by decide +kernel))
    | exact hret' _ _ _ (by k_asm) (News.cut1 (News.cut1 (News.cut1 (News.cut1 (News.cut1 (by with_reducible assumption)))))) (congrArg Value.bool (by decide +kernel))

set_option maxHeartbeats 4000000 in
theorem c_nb1 (A1 A2 : Addr) (a b c d : Tok) (h1 : (A1, tokObj (Str.ofString "word") (Str.ofString "GOTO") a b) ∈ news) (h2 : (A2, tokObj (Str.ofString "number") (Str.ofString "10") c d) ∈ news) : Ctr w mean mg mb 248 12 news [.ref A1, .ref A2] (fun v nw => v = .bool true ∧ news = nw) NoExc := by
  intro dp un gd cn cs a ccd cl outer A₀ base h₀ L m s Q E B F X N T hk hd' hu hret hexc
  have hret' : ∀ v h' tk', Fr h₀ L h' m → News h₀ L h' news → v = .bool true → Q v { s with heap := h', toks := tk' } := fun v h' tk' F' N' e => hret v news h' tk' F' N' ⟨e, rfl⟩
  clear hret hexc
  have N := News.put (.tail _ h1) (News.put h2 N)
  refine wpAny_call ?_
  k_dflt cell_enter
  w_top off
  k_with_none
  k_with "execs cons" => ((try k_fold); refine wpAny_execs_cons ?_; refine (let sk := _; (?_ : wpAny _ _ _ _ _ sk)))
  k_with "eval Call" => (k_here; (with_reducible show wpAny _ _ (eval (Expr.Call (Expr.Name _ _) _ [] _) _) _ _ _); k_dflt (refine Call_ ?_))
  k_with "exec Raise some none" => (k_here; (refine' raise_B ?_ ?R161.hh); (case hh => k_dflt rfl))
  k_with "call ref" => (k_here; (with_reducible show wpAny _ _ (PySem.call (Value.ref 34) _ _) _ _ _); refine' c_basic ?R162.b1 ?R162.b2 ?R162.b3 ?R162.b4 ?R162.b5 ?R162.b6 ?R162.b7 ?R162.b8 ?R162.b9 ?_; (case b1 => k_asm); (case b2 => k_asm); (case b3 => k_asm); (case b4 => k_asm); (case b5 => k_asm); (case b6 => rfl); (case b7 => rfl); (case b8 => first | rfl | assumption); (case b9 => ktr_room); intro e' dx' oD' ta' h' tk' F' N' d1' d2' d3')
  k_with "RaiseB" => (refine' ⟨_, _, _, rfl, ?R163.r1, ?R163.r2, ?_⟩; (case r1 => exact (News.get (by assumption) (.head _))); (case r2 => exact (Frag.In.keeps (by assumption) (Fr.keep (by assumption))) _ _ (by k_dflt k_is)))
  k_with "leaving ref" => (k_here; first
  | (refine' leave_newB ?R164.k1 ?R164.k2 ?R164.k3 ?R164.k4 ?R164.k5 ?R164.k6 ?_; (case k1 => assumption); (case k2 => assumption); (case k3 => assumption); (case k4 => assumption); (case k5 => assumption); (case k6 => assumption); k_whole; intro h' R' U'; (try dsimp only at R' U' ⊢))
  | (refine' leave_onB ?R164.k1 ?R164.k2 ?R164.k3 ?R164.k4 ?_; (case k3 => assumption); (case k1 => assumption); (case k4 => assumption); (case k2 => assumption); k_whole; intro h' R' U'; (try dsimp only at R' U' ⊢)))
  k_with "ite" => (k_here; first | (refine' iteT ?R165.h ?_; (case h => decide +kernel)) | (refine' iteF ?R165.h ?_; (case h => decide +kernel)))
  k_with "compareOp In str ref" => (k_here; (with_reducible show wpAny _ _ (PySem.compareOp CmpOp.In (Value.str _ _) (Value.ref 117)) _ _ _); k_dflt (refine' in_tuple_strs ?R166.k1 ?R166.k2 ?_; (case k1 => exact ⟨_, (Frag.In.keeps (by assumption) (Fr.keep (by assumption))) 117 _ (by k_dflt k_is), rfl, _, rfl⟩); (case k2 => exact .cons _ _ (.cons _ _ (.cons _ _ .nil)))))
  k_with "compareOp Eq ref ref" => (k_here; k_dflt (refine' eq_dataH (by ke_read) (by ke_read) (by ke_shaped) (by ke_shaped) ?R167.u ?_; (case u => first | ktr_units | (show un + 8 + 8 + 64 < cLine; omega) | (show un + 16 + 64 < cLine; omega) | ke_room)); ke_norm)
  k_with "compareOp NotEq ref ref" => (k_here; k_dflt (refine' ne_dataH (by ke_read) (by ke_read) (by ke_shaped) (by ke_shaped) ?R168.u ?_; (case u => first | ktr_units | (show un + 8 + 8 + 64 < cLine; omega) | (show un + 16 + 64 < cLine; omega) | ke_room)); ke_norm)
  k_steps
  all_goals first
    | exact hret' _ _ _ (by k_asm) (News.cut1 (News.cut1 (by with_reducible assumption))) (congrArg Value.bool (by decide +kernel))
    | exact hret' _ _ _ (by k_asm) (News.cut1 (News.cut1 (News.cut1 (by with_reducible assumption)))) (congrArg Value.bool (by decide +kernel))
    | exact hret' _ _ _ (by k_asm) (News.cut1 (News.cut1 (News.cut1 (News.cut1 (by with_reducible assumption))))) (congrArg Value.bool (by decide +kernel))
    | exact hret' _ _ _ (by k_asm) (News.cut1 (News.cut1 (News.cut1 (News.cut1 (News.cut1 (by with_reducible assumption)))))) (congrArg Value.bool (by decide +kernel))

set_option maxHeartbeats 4000000 in
theorem c_nb2 (A1 A2 : Addr) (a b c d : Tok) (h1 : (A1, tokObj (Str.ofString "name") (Str.ofString "A") a b) ∈ news) (h2 : (A2, tokObj (Str.ofString "sign") (Str.ofString "=") c d) ∈ news) : Ctr w mean mg mb 248 12 news [.ref A1, .ref A2] (fun v nw => v = .bool false ∧ news = nw) NoExc := by
  intro dp un gd cn cs a ccd cl outer A₀ base h₀ L m s Q E B F X N T hk hd' hu hret hexc
  have hret' : ∀ v h' tk', Fr h₀ L h' m → News h₀ L h' news → v = .bool false → Q v { s with heap := h', toks := tk' } := fun v h' tk' F' N' e => hret v news h' tk' F' N' ⟨e, rfl⟩
  clear hret hexc
  have N := News.put (.tail _ h1) (News.put h2 N)
  refine wpAny_call ?_
  k_dflt cell_enter
  w_top off
  k_with_none
  k_with "execs cons" => ((try k_fold); refine wpAny_execs_cons ?_; refine (let sk := _; (?_ : wpAny _ _ _ _ _ sk)))
  k_with "eval Call" => (k_here; (with_reducible show wpAny _ _ (eval (Expr.Call (Expr.Name _ _) _ [] _) _) _ _ _); k_dflt (refine Call_ ?_))
  k_with "exec Raise some none" => (k_here; (refine' raise_B ?_ ?R161.hh); (case hh => k_dflt rfl))
  k_with "call ref" => (k_here; (with_reducible show wpAny _ _ (PySem.call (Value.ref 34) _ _) _ _ _); refine' c_basic ?R162.b1 ?R162.b2 ?R162.b3 ?R162.b4 ?R162.b5 ?R162.b6 ?R162.b7 ?R162.b8 ?R162.b9 ?_; (case b1 => k_asm); (case b2 => k_asm); (case b3 => k_asm); (case b4 => k_asm); (case b5 => k_asm); (case b6 => rfl); (case b7 => rfl); (case b8 => first | rfl | assumption); (case b9 => ktr_room); intro e' dx' oD' ta' h' tk' F' N' d1' d2' d3')
  k_with "RaiseB" => (refine' ⟨_, _, _, rfl, ?R163.r1, ?R163.r2, ?_⟩; (case r1 => exact (News.get (by assumption) (.head _))); (case r2 => exact (Frag.In.keeps (by assumption) (Fr.keep (by assumption))) _ _ (by k_dflt k_is)))
  k_with "leaving ref" => (k_here; first
  | (refine' leave_newB ?R164.k1 ?R164.k2 ?R164.k3 ?R164.k4 ?R164.k5 ?R164.k6 ?_; (case k1 => assumption); (case k2 => assumption); (case k3 => assumption); (case k4 => assumption); (case k5 => assumption); (case k6 => assumption); k_whole; intro h' R' U'; (try dsimp only at R' U' ⊢))
  | (refine' leave_onB ?R164.k1 ?R164.k2 ?R164.k3 ?R164.k4 ?_; (case k3 => assumption); (case k1 => assumption); (case k4 => assumption); (case k2 => assumption); k_whole; intro h' R' U'; (try dsimp only at R' U' ⊢)))
  k_with "ite" => (k_here; first | (refine' iteT ?R165.h ?_; (case h => decide +kernel)) | (refine' iteF ?R165.h ?_; (case h => decide +kernel)))
  k_with "compareOp In str ref" => (k_here; (with_reducible show wpAny _ _ (PySem.compareOp CmpOp.In (Value.str _ _) (Value.ref 117)) _ _ _); k_dflt (refine' in_tuple_strs ?R166.k1 ?R166.k2 ?_; (case k1 => exact ⟨_, (Frag.In.keeps (by assumption) (Fr.keep (by assumption))) 117 _ (by k_dflt k_is), rfl, _, rfl⟩); (case k2 => exact .cons _ _ (.cons _ _ (.cons _ _ .nil)))))
  k_with "compareOp Eq ref ref" => (k_here; k_dflt (refine' eq_dataH (by ke_read) (by ke_read) (by ke_shaped) (by ke_shaped) ?R167.u ?_; (case u => first | ktr_units | (show un + 8 + 8 + 64 < cLine; omega) | (show un + 16 + 64 < cLine; omega) | ke_room)); ke_norm)
  k_with "compareOp NotEq ref ref" => (k_here; k_dflt (refine' ne_dataH (by ke_read) (by ke_read) (by ke_shaped) (by ke_shaped) ?R168.u ?_; (case u => first | ktr_units | (show un + 8 + 8 + 64 < cLine; omega) | (show un + 16 + 64 < cLine; omega) | ke_room)); ke_norm)
  k_steps
  all_goals first
    | exact hret' _ _ _ (by k_asm) (News.cut1 (News.cut1 (by with_reducible assumption))) (congrArg Value.bool (by decide +kernel))
    | exact hret' _ _ _ (by k_asm) (News.cut1 (News.cut1 (News.cut1 (by with_reducible assumption)))) (congrArg Value.bool (by decide +kernel))
    | exact hret' _ _ _ (by k_asm) (News.cut1 (News.cut1 (News.cut1 (News.cut1 (by with_reducible assumption))))) (congrArg Value.bool (by decide +kernel))
    | exact hret' _ _ _ (by k_asm) (News.cut1 (News.cut1 (News.cut1 (News.cut1 (News.cut1 (by with_reducible assumption)))))) (congrArg Value.bool (by decide +kernel))

set_option maxHeartbeats 4000000 in
theorem c_nb3 (A1 A2 : Addr) (a b c d : Tok) (h1 : (A1, tokObj (Str.ofString "sign") (Str.ofString "=") a b) ∈ news) (h2 : (A2, tokObj (Str.ofString "number") (Str.ofString "1") c d) ∈ news) : Ctr w mean mg mb 248 12 news [.ref A1, .ref A2] (fun v nw => v = .bool false ∧ news = nw) NoExc := by
  intro dp un gd cn cs a ccd cl outer A₀ base h₀ L m s Q E B F X N T hk hd' hu hret hexc
  have hret' : ∀ v h' tk', Fr h₀ L h' m → News h₀ L h' news → v = .bool false → Q v { s with heap := h', toks := tk' } := fun v h' tk' F' N' e => hret v news h' tk' F' N' ⟨e, rfl⟩
  clear hret hexc
  have N := News.put (.tail _ h1) (News.put h2 N)
  refine wpAny_call ?_
  k_dflt cell_enter
  w_top off
  k_with_none
  k_with "execs cons" => ((try k_fold); refine wpAny_execs_cons ?_; refine (let sk := _; (?_ : wpAny _ _ _ _ _ sk)))
  k_with "eval Call" => (k_here; (with_reducible show wpAny _ _ (eval (Expr.Call (Expr.Name _ _) _ [] _) _) _ _ _); k_dflt (refine Call_ ?_))
  k_with "exec Raise some none" => (k_here; (refine' raise_B ?_ ?R161.hh); (case hh => k_dflt rfl))
  k_with "call ref" => (k_here; (with_reducible show wpAny _ _ (PySem.call (Value.ref 34) _ _) _ _ _); refine' c_basic ?R162.b1 ?R162.b2 ?R162.b3 ?R162.b4 ?R162.b5 ?R162.b6 ?R162.b7 ?R162.b8 ?R162.b9 ?_; (case b1 => k_asm); (case b2 => k_asm); (case b3 => k_asm); (case b4 => k_asm); (case b5 => k_asm); (case b6 => rfl); (case b7 => rfl); (case b8 => first | rfl | assumption); (case b9 => ktr_room); intro e' dx' oD' ta' h' tk' F' N' d1' d2' d3')
  k_with "RaiseB" => (refine' ⟨_, _, _, rfl, ?R163.r1, ?R163.r2, ?_⟩; (case r1 => exact (News.get (by assumption) (.head _))); (case r2 => exact (Frag.In.keeps (by assumption) (Fr.keep (by assumption))) _ _ (by k_dflt k_is)))
  k_with "leaving ref" => (k_here; first
  | (refine' leave_newB ?R164.k1 ?R164.k2 ?R164.k3 ?R164.k4 ?R164.k5 ?R164.k6 ?_; (case k1 => assumption); (case k2 => assumption); (case k3 => assumption); (case k4 => assumption); (case k5 => assumption); (case k6 => assumption); k_whole; intro h' R' U'; (try dsimp only at R' U' ⊢))
  | (refine' leave_onB ?R164.k1 ?R164.k2 ?R164.k3 ?R164.k4 ?_; (case k3 => assumption); (case k1 => assumption); (case k4 => assumption); (case k2 => assumption); k_whole; intro h' R' U'; (try dsimp only at R' U' ⊢)))
  k_with "ite" => (k_here; first | (refine' iteT ?R165.h ?_; (case h => decide +kernel)) | (refine' iteF ?R165.h ?_; (case h => decide +kernel)))
  k_with "compareOp In str ref" => (k_here; (with_reducible show wpAny _ _ (PySem.compareOp CmpOp.In (Value.str _ _) (Value.ref 117)) _ _ _); k_dflt (refine' in_tuple_strs ?R166.k1 ?R166.k2 ?_; (case k1 => exact ⟨_, (Frag.In.keeps (by assumption) (Fr.keep (by assumption))) 117 _ (by k_dflt k_is), rfl, _, rfl⟩); (case k2 => exact .cons _ _ (.cons _ _ (.cons _ _ .nil)))))
  k_with "compareOp Eq ref ref" => (k_here; k_dflt (refine' eq_dataH (by ke_read) (by ke_read) (by ke_shaped) (by ke_shaped) ?R167.u ?_; (case u => first | ktr_units | (show un + 8 + 8 + 64 < cLine; omega) | (show un + 16 + 64 < cLine; omega) | ke_room)); ke_norm)
  k_with "compareOp NotEq ref ref" => (k_here; k_dflt (refine' ne_dataH (by ke_read) (by ke_read) (by ke_shaped) (by ke_shaped) ?R168.u ?_; (case u => first | ktr_units | (show un + 8 + 8 + 64 < cLine; omega) | (show un + 16 + 64 < cLine; omega) | ke_room)); ke_norm)
  k_steps
  all_goals first
    | exact hret' _ _ _ (by k_asm) (News.cut1 (News.cut1 (by with_reducible assumption))) (congrArg Value.bool (by decide +kernel))
    | exact hret' _ _ _ (by k_asm) (News.cut1 (News.cut1 (News.cut1 (by with_reducible assumption)))) (congrArg Value.bool (by decide +kernel))
    | exact hret' _ _ _ (by k_asm) (News.cut1 (News.cut1 (News.cut1 (News.cut1 (by with_reducible assumption))))) (congrArg Value.bool (by decide +kernel))
    | exact hret' _ _ _ (by k_asm) (News.cut1 (News.cut1 (News.cut1 (News.cut1 (News.cut1 (by with_reducible assumption)))))) (congrArg Value.bool (by decide +kernel))

set_option maxHeartbeats 4000000 in
theorem c_nb4 (A1 A2 : Addr) (a b c d : Tok) (h1 : (A1, tokObj (Str.ofString "word") (Str.ofString "PRINT") a b) ∈ news) (h2 : (A2, tokObj (Str.ofString "text") (Str.ofString "X") c d) ∈ news) : Ctr w mean mg mb 248 12 news [.ref A1, .ref A2] (fun v nw => v = .bool true ∧ news = nw) NoExc := by
  intro dp un gd cn cs a ccd cl outer A₀ base h₀ L m s Q E B F X N T hk hd' hu hret hexc
  have hret' : ∀ v h' tk', Fr h₀ L h' m → News h₀ L h' news → v = .bool true → Q v { s with heap := h', toks := tk' } := fun v h' tk' F' N' e => hret v news h' tk' F' N' ⟨e, rfl⟩
  clear hret hexc
  have N := News.put (.tail _ h1) (News.put h2 N)
  refine wpAny_call ?_
  k_dflt cell_enter
  w_top off
  k_with_none
  k_with "execs cons" => ((try k_fold); refine wpAny_execs_cons ?_; refine (let sk := _; (?_ : wpAny _ _ _ _ _ sk)))
  k_with "eval Call" => (k_here; (with_reducible show wpAny _ _ (eval (Expr.Call (Expr.Name _ _) _ [] _) _) _ _ _); k_dflt (refine Call_ ?_))
  k_with "exec Raise some none" => (k_here; (refine' raise_B ?_ ?R161.hh); (case hh => k_dflt rfl))
  k_with "call ref" => (k_here; (with_reducible show wpAny _ _ (PySem.call (Value.ref 34) _ _) _ _ _); refine' c_basic ?R162.b1 ?R162.b2 ?R162.b3 ?R162.b4 ?R162.b5 ?R162.b6 ?R162.b7 ?R162.b8 ?R162.b9 ?_; (case b1 => k_asm); (case b2 => k_asm); (case b3 => k_asm); (case b4 => k_asm); (case b5 => k_asm); (case b6 => rfl); (case b7 => rfl); (case b8 => first | rfl | assumption); (case b9 => ktr_room); intro e' dx' oD' ta' h' tk' F' N' d1' d2' d3')
  k_with "RaiseB" => (refine' ⟨_, _, _, rfl, ?R163.r1, ?R163.r2, ?_⟩; (case r1 => exact (News.get (by assumption) (.head _))); (case r2 => exact (Frag.In.keeps (by assumption) (Fr.keep (by assumption))) _ _ (by k_dflt k_is)))
  k_with "leaving ref" => (k_here; first
  | (refine' leave_newB ?R164.k1 ?R164.k2 ?R164.k3 ?R164.k4 ?R164.k5 ?R164.k6 ?_; (case k1 => assumption); (case k2 => assumption); (case k3 => assumption); (case k4 => assumption); (case k5 => assumption); (case k6 => assumption); k_whole; intro h' R' U'; (try dsimp only at R' U' ⊢))
  | (refine' leave_onB ?R164.k1 ?R164.k2 ?R164.k3 ?R164.k4 ?_; (case k3 => assumption); (case k1 => assumption); (case k4 => assumption); (case k2 => assumption); k_whole; intro h' R' U'; (try dsimp only at R' U' ⊢)))
  k_with "ite" => (k_here; first | (refine' iteT ?R165.h ?_; (case h => decide +kernel)) | (refine' iteF ?R165.h ?_; (case h => decide +kernel)))
  k_with "compareOp In str ref" => (k_here; (with_reducible show wpAny _ _ (PySem.compareOp CmpOp.In (Value.str _ _) (Value.ref 117)) _ _ _); k_dflt (refine' in_tuple_strs ?R166.k1 ?R166.k2 ?_; (case k1 => exact ⟨_, (Frag.In.keeps (by assumption) (Fr.keep (by assumption))) 117 _ (by k_dflt k_is), rfl, _, rfl⟩); (case k2 => exact .cons _ _ (.cons _ _ (.cons _ _ .nil)))))
  k_with "compareOp Eq ref ref" => (k_here; k_dflt (refine' eq_dataH (by ke_read) (by ke_read) (by ke_shaped) (by ke_shaped) ?R167.u ?_; (case u => first | ktr_units | (show un + 8 + 8 + 64 < cLine; omega) | (show un + 16 + 64 < cLine; omega) | ke_room)); ke_norm)
  k_with "compareOp NotEq ref ref" => (k_here; k_dflt (refine' ne_dataH (by ke_read) (by ke_read) (by ke_shaped) (by ke_shaped) ?R168.u ?_; (case u => first | ktr_units | (show un + 8 + 8 + 64 < cLine; omega) | (show un + 16 + 64 < cLine; omega) | ke_room)); ke_norm)
  k_steps
  all_goals first
    | exact hret' _ _ _ (by k_asm) (News.cut1 (News.cut1 (by with_reducible assumption))) (congrArg Value.bool (by decide +kernel))
    | exact hret' _ _ _ (by k_asm) (News.cut1 (News.cut1 (News.cut1 (by with_reducible assumption)))) (congrArg Value.bool (by decide +kernel))
    | exact hret' _ _ _ (by k_asm) (News.cut1 (News.cut1 (News.cut1 (News.cut1 (by with_reducible assumption))))) (congrArg Value.bool (by decide +kernel))
    | exact hret' _ _ _ (by k_asm) (News.cut1 (News.cut1 (News.cut1 (News.cut1 (News.cut1 (by with_reducible assumption)))))) (congrArg Value.bool (by decide +kernel))

set_option maxHeartbeats 4000000 in
theorem c_nb5 (A1 A2 : Addr) (a b c d : Tok) (h1 : (A1, tokObj (Str.ofString "word") (Str.ofString "DATA") a b) ∈ news) (h2 : (A2, tokObj (Str.ofString "raw") (Str.ofString "1, 2") c d) ∈ news) : Ctr w mean mg mb 248 12 news [.ref A1, .ref A2] (fun v nw => v = .bool true ∧ news = nw) NoExc := by
  intro dp un gd cn cs a ccd cl outer A₀ base h₀ L m s Q E B F X N T hk hd' hu hret hexc
  have hret' : ∀ v h' tk', Fr h₀ L h' m → News h₀ L h' news → v = .bool true → Q v { s with heap := h', toks := tk' } := fun v h' tk' F' N' e => hret v news h' tk' F' N' ⟨e, rfl⟩
  clear hret hexc
  have N := News.put (.tail _ h1) (News.put h2 N)
  refine wpAny_call ?_
  k_dflt cell_enter
  w_top off
  k_with_none
  k_with "execs cons" => ((try k_fold); refine wpAny_execs_cons ?_; refine (let sk := _; (?_ : wpAny _ _ _ _ _ sk)))
  k_with "eval Call" => (k_here; (with_reducible show wpAny _ _ (eval (Expr.Call (Expr.Name _ _) _ [] _) _) _ _ _); k_dflt (refine Call_ ?_))
  k_with "exec Raise some none" => (k_here; (refine' raise_B ?_ ?R161.hh); (case hh => k_dflt rfl))
  k_with "call ref" => (k_here; (with_reducible show wpAny _ _ (PySem.call (Value.ref 34) _ _) _ _ _); refine' c_basic ?R162.b1 ?R162.b2 ?R162.b3 ?R162.b4 ?R162.b5 ?R162.b6 ?R162.b7 ?R162.b8 ?R162.b9 ?_; (case b1 => k_asm); (case b2 => k_asm); (case b3 => k_asm); (case b4 => k_asm); (case b5 => k_asm); (case b6 => rfl); (case b7 => rfl); (case b8 => first | rfl | assumption); (case b9 => ktr_room); intro e' dx' oD' ta' h' tk' F' N' d1' d2' d3')
  k_with "RaiseB" => (refine' ⟨_, _, _, rfl, ?R163.r1, ?R163.r2, ?_⟩; (case r1 => exact (News.get (by assumption) (.head _))); (case r2 => exact (Frag.In.keeps (by assumption) (Fr.keep (by assumption))) _ _ (by k_dflt k_is)))
  k_with "leaving ref" => (k_here; first
  | (refine' leave_newB ?R164.k1 ?R164.k2 ?R164.k3 ?R164.k4 ?R164.k5 ?R164.k6 ?_; (case k1 => assumption); (case k2 => assumption); (case k3 => assumption); (case k4 => assumption); (case k5 => assumption); (case k6 => assumption); k_whole; intro h' R' U'; (try dsimp only at R' U' ⊢))
  | (refine' leave_onB ?R164.k1 ?R164.k2 ?R164.k3 ?R164.k4 ?_; (case k3 => assumption); (case k1 => assumption); (case k4 => assumption); (case k2 => assumption); k_whole; intro h' R' U'; (try dsimp only at R' U' ⊢)))
  k_with "ite" => (k_here; first | (refine' iteT ?R165.h ?_; (case h => decide +kernel)) | (refine' iteF ?R165.h ?_; (case h => decide +kernel)))
  k_with "compareOp In str ref" => (k_here; (with_reducible show wpAny _ _ (PySem.compareOp CmpOp.In (Value.str _ _) (Value.ref 117)) _ _ _); k_dflt (refine' in_tuple_strs ?R166.k1 ?R166.k2 ?_; (case k1 => exact ⟨_, (Frag.In.keeps (by assumption) (Fr.keep (by assumption))) 117 _ (by k_dflt k_is), rfl, _, rfl⟩); (case k2 => exact .cons _ _ (.cons _ _ (.cons _ _ .nil)))))
  k_with "compareOp Eq ref ref" => (k_here; k_dflt (refine' eq_dataH (by ke_read) (by ke_read) (by ke_shaped) (by ke_shaped) ?R167.u ?_; (case u => first | ktr_units | (show un + 8 + 8 + 64 < cLine; omega) | (show un + 16 + 64 < cLine; omega) | ke_room)); ke_norm)
  k_with "compareOp NotEq ref ref" => (k_here; k_dflt (refine' ne_dataH (by ke_read) (by ke_read) (by ke_shaped) (by ke_shaped) ?R168.u ?_; (case u => first | ktr_units | (show un + 8 + 8 + 64 < cLine; omega) | (show un + 16 + 64 < cLine; omega) | ke_room)); ke_norm)
  k_steps
  all_goals first
    | exact hret' _ _ _ (by k_asm) (News.cut1 (News.cut1 (by with_reducible assumption))) (congrArg Value.bool (by decide +kernel))
    | exact hret' _ _ _ (by k_asm) (News.cut1 (News.cut1 (News.cut1 (by with_reducible assumption)))) (congrArg Value.bool (by decide +kernel))
    | exact hret' _ _ _ (by k_asm) (News.cut1 (News.cut1 (News.cut1 (News.cut1 (by with_reducible assumption))))) (congrArg Value.bool (by decide +kernel))
    | exact hret' _ _ _ (by k_asm) (News.cut1 (News.cut1 (News.cut1 (News.cut1 (News.cut1 (by with_reducible assumption)))))) (congrArg Value.bool (by decide +kernel))

end
end Mine

end
section
open PySem PySem.W PyProof.Rows PySem.Calls
set_option Elab.async false
set_option linter.all false
set_option maxRecDepth 100000
set_option rowWalk.seconds 0
namespace Mine
section
variable {w : World} {mean : ExcName → Option Value} {mg mb : Str → Option Value} {news : Led}


abbrev endObj (l : Addr) (n : Int) (t : Tok) : Obj := { cls := .type "tuple", data := .seq #[.ref l, .int n t] 0 }
def WordIs (k x : Str) (e : Int) (news : Led) (v : Value) (nw : Led) : Prop := ∃ P L1 T1 te t t2 c, v = .ref P ∧ nw = (P, endObj L1 e te) :: (L1, listOf #[.ref T1] c) :: (T1, tokObj k x t t2) :: news ∧ T1 < L1 ∧ L1 < P ∧ (∀ p ∈ news, p.1 < T1)
def wordKind (T : Str) : Str := if isWordB T = true then Str.ofString "word" else Str.ofString "name"
theorem iteBF {b : Bool} {A B : Prop} (h : b = false) (a : B) : if b = true then A else B := by rw [h]; exact a
theorem iteBT {b : Bool} {A B : Prop} (h : b = true) (a : A) : if b = true then A else B := by rw [h]; exact a
structure WordB (W : Str) (b : Bool) : Prop where
  is : isWordB W = b

set_option maxHeartbeats 4000000 in
theorem c_word_at (x : Str) (t : Tok) (i : Int) (t2 : Tok) (e : Int) (W : Str) (h0 : 0 ≤ i) (hx : x.length ≤ 1000) (he : nameEnd x i = e) (hie : 0 ≤ e) (hT : capR (Txt.slice x (some i) (some e)) = W) (c1 : (Txt.slice x (some i) (some e)).length ≤ 1000) (c2 : (Txt.slice x (some i) (some e)).cps.all (· < 128) = true) (c3 : ∀ z ∈ signsL (Txt.slice x (some i) (some e)), z.cps.toList < (Str.ofString "a").cps.toList) (hW : W.length ≤ 100) (n1 : (W == Str.ofString "REM") = false) (n2 : (W == Str.ofString "DATA") = false) :
  Ctr w mean mg mb 220 6 news [.str x t, .int i t2] (fun v nw => WordIs (wordKind W) W e news v nw) NoExc := by
  intro dp un gd cn cs a ccd cl outer A₀ base h₀ L m s Q E B F X N T hk hd' hu hret hexc
  refine wpAny_call ?_
  k_dflt cell_enter
  refine (let ak := _; (?_ : wpAny _ ak _ _ _ _))
  w_top off
  k_with_none
  k_with "execs cons" => ((try k_fold); refine wpAny_execs_cons ?_; refine (let sk := _; (?_ : wpAny _ _ _ _ _ sk)))
  k_with "eval Call" => (k_here; (with_reducible show wpAny _ _ (eval (Expr.Call (Expr.Name _ _) _ [] _) _) _ _ _); k_dflt (refine Call_ ?_))
  k_with "exec Raise some none" => (k_here; (refine' raise_B ?_ ?R170.hh); (case hh => k_dflt rfl))
  k_with "call ref" => (k_here; (try refine (?_ : wpAny _ (PySem.Around.deeper _ _) _ _ _ _)); (with_reducible show wpAny _ _ (PySem.call (Value.ref 34) _ _) _ _ _); refine' c_basic ?R171.b1 ?R171.b2 ?R171.b3 ?R171.b4 ?R171.b5 ?R171.b6 ?R171.b7 ?R171.b8 ?R171.b9 ?_; (case b1 => k_asm); (case b2 => k_asm); (case b3 => k_asm); (case b4 => k_asm); (case b5 => k_asm); (case b6 => rfl); (case b7 => rfl); (case b8 => first | rfl | assumption); (case b9 => ktr_room); intro e' dx' oD' ta' h' tk' F' N' d1' d2' d3')
  k_with "RaiseB" => (refine' ⟨_, _, _, rfl, ?R172.r1, ?R172.r2, ?_⟩; (case r1 => exact (News.get (by assumption) (.head _))); (case r2 => exact (Frag.In.keeps (by assumption) (Fr.keep (by assumption))) _ _ (by k_dflt k_is)))
  k_with "leaving ref" => (k_here; first
  | (refine' leave_newB ?R173.k1 ?R173.k2 ?R173.k3 ?R173.k4 ?R173.k5 ?R173.k6 ?_; (case k1 => assumption); (case k2 => assumption); (case k3 => assumption); (case k4 => assumption); (case k5 => assumption); (case k6 => assumption); k_whole; intro h' R' U'; (try dsimp only at R' U' ⊢))
  | (refine' leave_onB ?R173.k1 ?R173.k2 ?R173.k3 ?R173.k4 ?_; (case k3 => assumption); (case k1 => assumption); (case k4 => assumption); (case k2 => assumption); k_whole; intro h' R' U'; (try dsimp only at R' U' ⊢)))
  k_with "call ref" => (k_here; (try refine (?_ : wpAny _ (PySem.Around.deeper _ _) _ _ _ _)); (with_reducible show wpAny _ _ (PySem.call (Value.ref 185) _ _) _ _ _); (try k_fold); k_dflt (refine' Ctr.use0 (c_name_end _ _ _ _ ?R174.p1 ?R174.p2) ?R174.k1 ?R174.k2 ?R174.k3 ?R174.k4 ?R174.k5 ?R174.k6 ?R174.k7 ?R174.k8 ?_; (case p1 => with_reducible assumption); (case p2 => with_reducible assumption); tb_start; intro v' nw' h' tk' F' N' q'; obtain ⟨n', tq, q1, e', q2⟩ := q'; subst q1 q2; (replace e' := e'.trans (by with_reducible assumption)); subst e'; (try dsimp only)))
  k_with "call ref" => (k_here; (try refine (?_ : wpAny _ (PySem.Around.deeper _ _) _ _ _ _)); (with_reducible show wpAny _ _ (PySem.call (Value.ref 150) _ _) _ _ _); (try k_fold); k_dflt (refine' Ctr.use0 (c_capital _ _ ?R175.p1 ?R175.p2 ?R175.p3) ?R175.k1 ?R175.k2 ?R175.k3 ?R175.k4 ?R175.k5 ?R175.k6 ?R175.k7 ?R175.k8 ?_; (case p1 => with_reducible assumption); (case p2 => with_reducible assumption); (case p3 => with_reducible assumption); tb_start; intro v' nw' h' tk' F' N' q'; obtain ⟨⟨tq, q1⟩, q2⟩ := q'; (replace q1 := q1.trans (congrArg (Value.str · tq) (show capR _ = _ by with_reducible assumption))); (try dsimp only at q1); subst q1 q2; (try dsimp only)))
  k_with "ite" => (k_here; first | (refine' iteBF ?R176.h ?_; (case h => with_reducible assumption)) | (refine' iteBT ?R176.h ?_; (case h => with_reducible assumption)))
  k_with "call ref" => (k_here; (try refine (?_ : wpAny _ (PySem.Around.deeper _ _) _ _ _ _)); (with_reducible show wpAny _ _ (PySem.call (Value.ref 131) _ _) _ _ _); (try k_fold); k_dflt (refine' Ctr.use0 (c_is_word _ _ ?R177.p1) ?R177.k1 ?R177.k2 ?R177.k3 ?R177.k4 ?R177.k5 ?R177.k6 ?R177.k7 ?R177.k8 ?_; (case p1 => with_reducible assumption); tb_start; intro v' nw' h' tk' F' N' q'; obtain ⟨q1, q2⟩ := q'; (generalize qB : isWordB _ = wB at q1); (replace qB := WordB.mk qB); subst q1 q2; (try dsimp only)))
  k_steps
  all_goals
    refine' hret _ _ _ _ ?rF ?rN ?rP
    case rF => k_asm
    case rN => k_asm
    case rP =>
      (rename WordB _ _ => qb; have qb := qb.is)
      first | (have kd : wordKind W = Str.ofString "word" := by unfold wordKind; rw [qb, if_pos (by with_reducible assumption)]) | (have kd : wordKind W = Str.ofString "name" := by unfold wordKind; rw [qb]; simp_all)
      rw [kd]
      refine ⟨_, _, _, _, _, _, _, rfl, rfl, ?_, ?_, by with_reducible assumption⟩ <;> (show (_ : Nat) < _; omega)
end
end Mine

end
section
open PySem PySem.W PyProof.Rows PySem.Calls
set_option Elab.async false
set_option linter.all false
set_option maxRecDepth 100000
namespace Mine
def wordsLit : List Str := [Str.ofString "LET", Str.ofString "PRINT", Str.ofString "USING", Str.ofString "INPUT", Str.ofString "LINE", Str.ofString "IF", Str.ofString "THEN", Str.ofString "ELSE", Str.ofString "GOTO", Str.ofString "GOSUB", Str.ofString "ON", Str.ofString "RETURN", Str.ofString "FOR", Str.ofString "TO", Str.ofString "STEP", Str.ofString "NEXT", Str.ofString "WHILE", Str.ofString "WEND", Str.ofString "DEF", Str.ofString "FNEND", Str.ofString "READ", Str.ofString "DATA", Str.ofString "RESTORE", Str.ofString "DIM", Str.ofString "ERASE", Str.ofString "OPTION", Str.ofString "BASE", Str.ofString "SWAP", Str.ofString "ERROR", Str.ofString "RESUME", Str.ofString "STOP", Str.ofString "END", Str.ofString "REM", Str.ofString "RANDOMIZE", Str.ofString "DEFINT", Str.ofString "DEFSNG", Str.ofString "DEFSTR", Str.ofString "MAT", Str.ofString "ZER", Str.ofString "CON", Str.ofString "IDN", Str.ofString "INV", Str.ofString "TRN", Str.ofString "OPEN", Str.ofString "OUTPUT", Str.ofString "APPEND", Str.ofString "RANDOM", Str.ofString "AS", Str.ofString "CLOSE", Str.ofString "FIELD", Str.ofString "LSET", Str.ofString "RSET", Str.ofString "GET", Str.ofString "PUT", Str.ofString "WRITE", Str.ofString "CHAIN", Str.ofString "COMMON", Str.ofString "TRON", Str.ofString "TROFF", Str.ofString "AND", Str.ofString "OR", Str.ofString "XOR", Str.ofString "EQV", Str.ofString "IMP", Str.ofString "NOT", Str.ofString "MOD"]
def funsLit : List Str := [Str.ofString "ABS", Str.ofString "ASC", Str.ofString "CHR$", Str.ofString "CINT", Str.ofString "CSNG", Str.ofString "CVI", Str.ofString "CVS", Str.ofString "EDIT$", Str.ofString "EOF", Str.ofString "ERL", Str.ofString "ERR", Str.ofString "FIX", Str.ofString "FRE", Str.ofString "HEX$", Str.ofString "INSTR", Str.ofString "INT", Str.ofString "LCASE$", Str.ofString "LEFT$", Str.ofString "LEN", Str.ofString "LOC", Str.ofString "LOF", Str.ofString "LPOS", Str.ofString "LTRIM$", Str.ofString "MAX", Str.ofString "MID$", Str.ofString "MIN", Str.ofString "MKI$", Str.ofString "MKS$", Str.ofString "OCT$", Str.ofString "PI", Str.ofString "POS", Str.ofString "RIGHT$", Str.ofString "RND", Str.ofString "RTRIM$", Str.ofString "SEG$", Str.ofString "SGN", Str.ofString "SPACE$", Str.ofString "SPC", Str.ofString "SQR", Str.ofString "STR$", Str.ofString "STRING$", Str.ofString "SWAP%", Str.ofString "TAB", Str.ofString "UCASE$", Str.ofString "VAL", Str.ofString "XLATE$"]
noncomputable def joinL (sep : List Nat) : List (List Nat) → List Nat
  | [] => []
  | [a] => a
  | a :: b :: r => a ++ (sep ++ joinL sep (b :: r))
theorem join_toList (sep : Str) : ∀ l : List Str, (Str.join sep l).cps.toList = joinL sep.cps.toList (l.map fun x => x.cps.toList)
  | [] => rfl
  | [a] => rfl
  | a :: b :: r => by
    rw [join_cons2, cps_append, cps_append, join_toList sep (b :: r), List.append_assoc]
    rfl
theorem wordsL_eq : wordsL = wordsLit := by
  have e : Str.ofString "LET PRINT USING INPUT LINE IF THEN ELSE GOTO GOSUB ON RETURN FOR TO STEP NEXT WHILE WEND DEF FNEND READ DATA RESTORE DIM ERASE OPTION BASE SWAP ERROR RESUME STOP END REM RANDOMIZE DEFINT DEFSNG DEFSTR MAT ZER CON IDN INV TRN OPEN OUTPUT APPEND RANDOM AS CLOSE FIELD LSET RSET GET PUT WRITE CHAIN COMMON TRON TROFF AND OR XOR EQV IMP NOT MOD" = Str.join ⟨#[32]⟩ wordsLit := str_ext (by rw [join_toList]; decide +kernel)
  have e2 : Str.ofString " " = ⟨#[32]⟩ := by decide +kernel
  unfold wordsL
  rw [e, e2]
  exact split_join 32 _ (by unfold wordsLit; exact List.cons_ne_nil _ _) (Free.all (by decide +kernel))
theorem funsL_eq : funsL = funsLit := by
  have e : Str.ofString "ABS ASC CHR$ CINT CSNG CVI CVS EDIT$ EOF ERL ERR FIX FRE HEX$ INSTR INT LCASE$ LEFT$ LEN LOC LOF LPOS LTRIM$ MAX MID$ MIN MKI$ MKS$ OCT$ PI POS RIGHT$ RND RTRIM$ SEG$ SGN SPACE$ SPC SQR STR$ STRING$ SWAP% TAB UCASE$ VAL XLATE$" = Str.join ⟨#[32]⟩ funsLit := str_ext (by rw [join_toList]; decide +kernel)
  have e2 : Str.ofString " " = ⟨#[32]⟩ := by decide +kernel
  unfold funsL
  rw [e, e2]
  exact split_join 32 _ (by unfold funsLit; exact List.cons_ne_nil _ _) (Free.all (by decide +kernel))
theorem kd_PRINT : wordKind (Str.ofString "PRINT") = Str.ofString "word" := by
  unfold wordKind isWordB
  rw [wordsL_eq, funsL_eq]
  decide +kernel
theorem kd_GOTO : wordKind (Str.ofString "GOTO") = Str.ofString "word" := by
  unfold wordKind isWordB
  rw [wordsL_eq, funsL_eq]
  decide +kernel
theorem kd_A : wordKind (Str.ofString "A") = Str.ofString "name" := by
  unfold wordKind isWordB
  rw [wordsL_eq, funsL_eq]
  decide +kernel
end Mine

end
section
open PySem PySem.W PyProof.Rows PySem.Calls
set_option Elab.async false
set_option linter.all false
set_option maxRecDepth 100000
set_option rowWalk.seconds 0
namespace Mine
section
variable {w : World} {mean : ExcName → Option Value} {mg mb : Str → Option Value} {news : Led}



theorem News.sub {h₀ h : Heap} {L : Addr} {l l' : Led} (N : News h₀ L h l) (hs : ∀ p ∈ l', p ∈ l) : News h₀ L h l' := fun p hp => N p (hs p hp)
theorem News.cut4 {h₀ h : Heap} {L : Addr} {a b c d : Addr × Obj} {l : Led} (N : News h₀ L h (a :: b :: c :: d :: l)) : News h₀ L h (a :: b :: c :: l) := fun p hp => N p (by
  simp only [List.mem_cons] at hp ⊢
  rcases hp with h | h | h | h
  · exact .inl h
  · exact .inr (.inl h)
  · exact .inr (.inr (.inl h))
  · exact .inr (.inr (.inr (.inr h))))
theorem News.cut3 {h₀ h : Heap} {L : Addr} {a b c : Addr × Obj} {l : Led} (N : News h₀ L h (a :: b :: c :: l)) : News h₀ L h (a :: b :: l) := fun p hp => N p (by
  simp only [List.mem_cons] at hp ⊢
  rcases hp with h | h | h
  · exact .inl h
  · exact .inr (.inl h)
  · exact .inr (.inr (.inr h)))

set_option maxHeartbeats 4000000 in
theorem c_tok0 (t t2 : Tok) : Ctr w mean mg mb 227 10 news [.str (Str.ofString "PRINT A") t, .int 0 t2] (fun v nw => WordIs (Str.ofString "word") (Str.ofString "PRINT") 5 news v nw) NoExc := by
  intro dp un gd cn cs a ccd cl outer A₀ base h₀ L m s Q E B F X N T hk hd' hu hret hexc
  refine wpAny_call ?_
  k_dflt cell_enter
  refine (let ak := _; (?_ : wpAny _ ak _ _ _ _))
  w_top off
  k_with_none
  k_with "execs cons" => ((try k_fold); refine wpAny_execs_cons ?_; refine (let sk := _; (?_ : wpAny _ _ _ _ _ sk)))
  k_with "eval Call" => (k_here; (with_reducible show wpAny _ _ (eval (Expr.Call (Expr.Name _ _) _ [] _) _) _ _ _); k_dflt (refine Call_ ?_))
  k_with "exec Raise some none" => (k_here; (refine' raise_B ?_ ?R179.hh); (case hh => k_dflt rfl))
  k_with "call ref" => (k_here; (try refine (?_ : wpAny _ (PySem.Around.deeper _ _) _ _ _ _)); (with_reducible show wpAny _ _ (PySem.call (Value.ref 34) _ _) _ _ _); refine' c_basic ?R180.b1 ?R180.b2 ?R180.b3 ?R180.b4 ?R180.b5 ?R180.b6 ?R180.b7 ?R180.b8 ?R180.b9 ?_; (case b1 => k_asm); (case b2 => k_asm); (case b3 => k_asm); (case b4 => k_asm); (case b5 => k_asm); (case b6 => rfl); (case b7 => rfl); (case b8 => first | rfl | assumption); (case b9 => ktr_room); intro e' dx' oD' ta' h' tk' F' N' d1' d2' d3')
  k_with "RaiseB" => (refine' ⟨_, _, _, rfl, ?R181.r1, ?R181.r2, ?_⟩; (case r1 => exact (News.get (by assumption) (.head _))); (case r2 => exact (Frag.In.keeps (by assumption) (Fr.keep (by assumption))) _ _ (by k_dflt k_is)))
  k_with "leaving ref" => (k_here; first
  | (refine' leave_newB ?R182.k1 ?R182.k2 ?R182.k3 ?R182.k4 ?R182.k5 ?R182.k6 ?_; (case k1 => assumption); (case k2 => assumption); (case k3 => assumption); (case k4 => assumption); (case k5 => assumption); (case k6 => assumption); k_whole; intro h' R' U'; (try dsimp only at R' U' ⊢))
  | (refine' leave_onB ?R182.k1 ?R182.k2 ?R182.k3 ?R182.k4 ?_; (case k3 => assumption); (case k1 => assumption); (case k4 => assumption); (case k2 => assumption); k_whole; intro h' R' U'; (try dsimp only at R' U' ⊢)))
  k_with "ite" => (k_here; first | (refine' iteT ?R183.h ?_; (case h => decide +kernel)) | (refine' iteF ?R183.h ?_; (case h => decide +kernel)))
  k_with "call builtin:str.find" => (k_here; k_dflt (refine c_find4 ?_))
  k_with "subscriptTail Name Name str int" => (k_here; k_dflt (refine item_str (by decide +kernel) (by decide +kernel) (by decide +kernel) ?_); intro _)
  k_with "call ref" => (k_here; (try refine (?_ : wpAny _ (PySem.Around.deeper _ _) _ _ _ _)); (with_reducible show wpAny _ _ (PySem.call (Value.ref _) _ _) _ _ _); (try k_fold); refine wpAny_call ?_; k_dflt (refine' code_def ?R186.k1 ?R186.k2 ?R186.k3 ?R186.k4 ?R186.k5 ?R186.kA ?R186.kF ?R186.kK ?R186.k6 ?R186.k7 ?R186.k8 ?R186.k9 ?R186.kB ?_ ?R186.c2 ?R186.c3 ?R186.c4 ?R186.c5; (case kA => exact rfl); (case kF => exact rfl); (case kK => first | exact rfl | assumption); (case k1 => k_asm); (case k2 => k_asm); (case k3 => k_asm); (case k4 => k_asm); (case k5 => k_asm); (case k6 => k_is); (case k7 => k_is); (case k8 => ktr_room); (case k9 => exact BindsTo.of_eq rfl); (case c5 => decide); (case kB => exact locs rfl); (case c2 => exact rfl); (case c3 => exact rfl); (case c4 => exact rfl); k_whole; intro g' L' h' FG' F' N' B' X' T'; (try dsimp only); (try k_lift B'); (try k_fold)))
  k_with "call ref" => (k_here; (try refine (?_ : wpAny _ (PySem.Around.deeper _ _) _ _ _ _)); (with_reducible show wpAny _ _ (PySem.call (Value.ref 138) _ _) _ _ _); (try k_fold); k_dflt (refine' Ctr.use0 (c_is_letter _ _) ?R187.k1 ?R187.k2 ?R187.k3 ?R187.k4 ?R187.k5 ?R187.k6 ?R187.k7 ?R187.k8 ?_; tb_start; intro v' nw' h' tk' F' N' q'; obtain ⟨q1, q2⟩ := q'; (first | (replace q1 := q1.trans (congrArg Value.bool (show isLetS _ = true by decide +kernel))) | (replace q1 := q1.trans (congrArg Value.bool (show isLetS _ = false by decide +kernel)))); subst q1 q2; (try dsimp only)))
  k_with "call ref" => (k_here; (try refine (?_ : wpAny _ (PySem.Around.deeper _ _) _ _ _ _)); (with_reducible show wpAny _ _ (PySem.call (Value.ref 145) _ _) _ _ _); (try k_fold); k_dflt (refine' Ctr.use0 (c_is_figure _ _) ?R188.k1 ?R188.k2 ?R188.k3 ?R188.k4 ?R188.k5 ?R188.k6 ?R188.k7 ?R188.k8 ?_; tb_start; intro v' nw' h' tk' F' N' q'; obtain ⟨q1, q2⟩ := q'; (first | (replace q1 := q1.trans (congrArg Value.bool (show isFigS _ = true by decide +kernel))) | (replace q1 := q1.trans (congrArg Value.bool (show isFigS _ = false by decide +kernel)))); subst q1 q2; (try dsimp only)))
  k_with "call ref" => (k_here; (try refine (?_ : wpAny _ (PySem.Around.deeper _ _) _ _ _ _)); (with_reducible show wpAny _ _ (PySem.call (Value.ref 164) _ _) _ _ _); (try k_fold); k_dflt (refine' Ctr.use0 (c_skipped _ _ _ _ ?R189.p1 ?R189.p2) ?R189.k1 ?R189.k2 ?R189.k3 ?R189.k4 ?R189.k5 ?R189.k6 ?R189.k7 ?R189.k8 ?_; (case p1 => decide); (case p2 => decide +kernel); tb_start; intro v' nw' h' tk' F' N' q'; obtain ⟨⟨n', tq, q1, e', g', l'⟩, q2⟩ := q'; clear g' l'; (first | (replace e' : n' = 0 := e'.trans (by decide +kernel)) | (replace e' : n' = 1 := e'.trans (by decide +kernel)) | (replace e' : n' = 2 := e'.trans (by decide +kernel)) | (replace e' : n' = 3 := e'.trans (by decide +kernel)) | (replace e' : n' = 4 := e'.trans (by decide +kernel)) | (replace e' : n' = 5 := e'.trans (by decide +kernel)) | (replace e' : n' = 6 := e'.trans (by decide +kernel)) | (replace e' : n' = 7 := e'.trans (by decide +kernel)) | (replace e' : n' = 8 := e'.trans (by decide +kernel)) | (replace e' : n' = 9 := e'.trans (by decide +kernel)) | (replace e' : n' = 10 := e'.trans (by decide +kernel)) | (replace e' : n' = 11 := e'.trans (by decide +kernel)) | (replace e' : n' = 12 := e'.trans (by decide +kernel))); subst e'; subst q1 q2; (try dsimp only)))
  k_with "call ref" => (k_here; (try refine (?_ : wpAny _ (PySem.Around.deeper _ _) _ _ _ _)); (with_reducible show wpAny _ _ (PySem.call (Value.ref 157) _ _) _ _ _); (try k_fold); k_dflt (refine' Ctr.use0 (c_figures_end _ _ _ _ ?R190.p1 ?R190.p2) ?R190.k1 ?R190.k2 ?R190.k3 ?R190.k4 ?R190.k5 ?R190.k6 ?R190.k7 ?R190.k8 ?_; (case p1 => decide); (case p2 => decide +kernel); tb_start; intro v' nw' h' tk' F' N' q'; obtain ⟨⟨n', tq, q1, e', g', l'⟩, q2⟩ := q'; clear g' l'; (first | (replace e' : n' = 0 := e'.trans (by decide +kernel)) | (replace e' : n' = 1 := e'.trans (by decide +kernel)) | (replace e' : n' = 2 := e'.trans (by decide +kernel)) | (replace e' : n' = 3 := e'.trans (by decide +kernel)) | (replace e' : n' = 4 := e'.trans (by decide +kernel)) | (replace e' : n' = 5 := e'.trans (by decide +kernel)) | (replace e' : n' = 6 := e'.trans (by decide +kernel)) | (replace e' : n' = 7 := e'.trans (by decide +kernel)) | (replace e' : n' = 8 := e'.trans (by decide +kernel)) | (replace e' : n' = 9 := e'.trans (by decide +kernel)) | (replace e' : n' = 10 := e'.trans (by decide +kernel)) | (replace e' : n' = 11 := e'.trans (by decide +kernel)) | (replace e' : n' = 12 := e'.trans (by decide +kernel))); subst e'; subst q1 q2; (try dsimp only)))
  k_with "call ref" => (k_here; (try refine (?_ : wpAny _ (PySem.Around.deeper _ _) _ _ _ _)); (with_reducible show wpAny _ _ (PySem.call (Value.ref 150) _ _) _ _ _); (try k_fold); k_dflt (refine' Ctr.use0 (c_capital _ _ ?R191.p1 ?R191.p2 ?R191.p3) ?R191.k1 ?R191.k2 ?R191.k3 ?R191.k4 ?R191.k5 ?R191.k6 ?R191.k7 ?R191.k8 ?_; (case p1 => decide +kernel); (case p2 => decide +kernel); (case p3 => decide +kernel); tb_start; intro v' nw' h' tk' F' N' q'; obtain ⟨⟨tq, q1⟩, q2⟩ := q'; (first | (replace q1 := q1.trans (congrArg (Value.str · tq) (show capR _ = Str.ofString "PRINT" by decide +kernel))) | (replace q1 := q1.trans (congrArg (Value.str · tq) (show capR _ = Str.ofString "GOTO" by decide +kernel))) | (replace q1 := q1.trans (congrArg (Value.str · tq) (show capR _ = Str.ofString "REM" by decide +kernel))) | (replace q1 := q1.trans (congrArg (Value.str · tq) (show capR _ = Str.ofString "A" by decide +kernel))) | (replace q1 := q1.trans (congrArg (Value.str · tq) (show capR _ = Str.ofString "DATA" by decide +kernel))) | (replace q1 := q1.trans (congrArg (Value.str · tq) (show capR _ = Str.ofString "10" by decide +kernel))) | (replace q1 := q1.trans (congrArg (Value.str · tq) (show capR _ = Str.ofString "1" by decide +kernel)))); (try dsimp only at q1); subst q1 q2; (try dsimp only)))
  k_with "call ref" => (k_here; (try refine (?_ : wpAny _ (PySem.Around.deeper _ _) _ _ _ _)); (with_reducible show wpAny _ _ (PySem.call (Value.ref 206) _ _) _ _ _); (try k_fold); k_dflt (refine' Ctr.use0 (c_data_end _ _) ?R192.k1 ?R192.k2 ?R192.k3 ?R192.k4 ?R192.k5 ?R192.k6 ?R192.k7 ?R192.k8 ?_; tb_start; intro v' nw' h' tk' F' N' q'; obtain ⟨tq, q1, q2⟩ := q'; subst q1 q2; (try dsimp only)))
  k_with "call ref" => (k_here; (try refine (?_ : wpAny _ (PySem.Around.deeper _ _) _ _ _ _)); (with_reducible show wpAny _ _ (PySem.call (Value.ref 185) _ _) _ _ _); (try k_fold); k_dflt (refine' Ctr.use0 (c_name_end _ _ _ _ ?R193.p1 ?R193.p2) ?R193.k1 ?R193.k2 ?R193.k3 ?R193.k4 ?R193.k5 ?R193.k6 ?R193.k7 ?R193.k8 ?_; (case p1 => decide); (case p2 => decide +kernel); tb_start; intro v' nw' h' tk' F' N' q'; obtain ⟨n', tq, q1, e', q2⟩ := q'; (first | (replace e' : n' = 3 := e'.trans (by decide +kernel)) | (replace e' : n' = 4 := e'.trans (by decide +kernel))); subst e'; subst q1 q2; (try dsimp only)))
  k_with "call ref" => (k_here; (try refine (?_ : wpAny _ (PySem.Around.deeper _ _) _ _ _ _)); (with_reducible show wpAny _ _ (PySem.call (Value.ref 220) _ _) _ _ _); (try k_fold); k_dflt ((first | (refine' Ctr.use0 (c_word_at _ _ _ _ 5 (Str.ofString "PRINT") (by decide) (by decide +kernel) (by decide +kernel) (by decide) (by decide +kernel) (by decide +kernel) (by decide +kernel) (by decide +kernel) (by decide +kernel) (by decide +kernel) (by decide +kernel)) ?R194.k1 ?R194.k2 ?R194.k3 ?R194.k4 ?R194.k5 ?R194.k6 ?R194.k7 ?R194.k8 ?_) | (refine' Ctr.use0 (c_word_at _ _ _ _ 7 (Str.ofString "A") (by decide) (by decide +kernel) (by decide +kernel) (by decide) (by decide +kernel) (by decide +kernel) (by decide +kernel) (by decide +kernel) (by decide +kernel) (by decide +kernel) (by decide +kernel)) ?R194.k1 ?R194.k2 ?R194.k3 ?R194.k4 ?R194.k5 ?R194.k6 ?R194.k7 ?R194.k8 ?_) | (refine' Ctr.use0 (c_word_at _ _ _ _ 4 (Str.ofString "GOTO") (by decide) (by decide +kernel) (by decide +kernel) (by decide) (by decide +kernel) (by decide +kernel) (by decide +kernel) (by decide +kernel) (by decide +kernel) (by decide +kernel) (by decide +kernel)) ?R194.k1 ?R194.k2 ?R194.k3 ?R194.k4 ?R194.k5 ?R194.k6 ?R194.k7 ?R194.k8 ?_) | (refine' Ctr.use0 (c_word_at _ _ _ _ 1 (Str.ofString "A") (by decide) (by decide +kernel) (by decide +kernel) (by decide) (by decide +kernel) (by decide +kernel) (by decide +kernel) (by decide +kernel) (by decide +kernel) (by decide +kernel) (by decide +kernel)) ?R194.k1 ?R194.k2 ?R194.k3 ?R194.k4 ?R194.k5 ?R194.k6 ?R194.k7 ?R194.k8 ?_)); tb_start; intro v' nw' h' tk' F' N' q'; obtain ⟨P, L1, T1, te, t, t2, c, q1, q2, l1, l2, l3⟩ := q'; (first | (rw [kd_PRINT] at q2) | (rw [kd_GOTO] at q2) | (rw [kd_A] at q2)); subst q1 q2; (try dsimp only)))
  k_steps
  refine' hret _ _ _ _ ?rF ?rN ?rP
  case rF => k_asm
  case rN => k_asm
  case rP =>
    first
      | (refine ⟨_, _, _, _, _, _, _, rfl, rfl, ?_, ?_, by first | with_reducible assumption | exact allLt_all (And.right (show (_ : Prop) ∧ AllLt _ news by with_reducible assumption)) | exact allLt_all (And.right (And.right (show (_ : Prop) ∧ (_ : Prop) ∧ AllLt _ news by with_reducible assumption))) | exact allLt_all (And.right (And.right (And.right (show (_ : Prop) ∧ (_ : Prop) ∧ (_ : Prop) ∧ AllLt _ news by with_reducible assumption)))) | exact allLt_all (And.right (And.right (And.right (And.right (show (_ : Prop) ∧ (_ : Prop) ∧ (_ : Prop) ∧ (_ : Prop) ∧ AllLt _ news by with_reducible assumption)))))⟩ <;> (show (_ : Nat) < _; omega))
      | (refine ⟨_, _, _, _, _, _, _, rfl, by rw [show Txt.slice (Txt.slice (Str.ofString "REM A  B") (some 3) none) (some 1) none = Str.ofString "A  B" by decide +kernel]; rfl, ?_, ?_, by first | with_reducible assumption | exact allLt_all (And.right (show (_ : Prop) ∧ AllLt _ news by with_reducible assumption)) | exact allLt_all (And.right (And.right (show (_ : Prop) ∧ (_ : Prop) ∧ AllLt _ news by with_reducible assumption))) | exact allLt_all (And.right (And.right (And.right (show (_ : Prop) ∧ (_ : Prop) ∧ (_ : Prop) ∧ AllLt _ news by with_reducible assumption)))) | exact allLt_all (And.right (And.right (And.right (And.right (show (_ : Prop) ∧ (_ : Prop) ∧ (_ : Prop) ∧ (_ : Prop) ∧ AllLt _ news by with_reducible assumption)))))⟩ <;> (show (_ : Nat) < _; omega))
      | (refine ⟨_, _, _, _, _, _, _, rfl, by rw [show Txt.find3 (Str.ofString "PRINT \"X\"") (Str.ofString "\"") (6 + 1) = 8 by decide +kernel]; rfl, ?_, ?_, by first | with_reducible assumption | exact allLt_all (And.right (show (_ : Prop) ∧ AllLt _ news by with_reducible assumption)) | exact allLt_all (And.right (And.right (show (_ : Prop) ∧ (_ : Prop) ∧ AllLt _ news by with_reducible assumption))) | exact allLt_all (And.right (And.right (And.right (show (_ : Prop) ∧ (_ : Prop) ∧ (_ : Prop) ∧ AllLt _ news by with_reducible assumption)))) | exact allLt_all (And.right (And.right (And.right (And.right (show (_ : Prop) ∧ (_ : Prop) ∧ (_ : Prop) ∧ (_ : Prop) ∧ AllLt _ news by with_reducible assumption)))))⟩ <;> (show (_ : Nat) < _; omega))

set_option maxHeartbeats 4000000 in
theorem c_tok1 (t t2 : Tok) : Ctr w mean mg mb 227 10 news [.str (Str.ofString "PRINT A") t, .int 6 t2] (fun v nw => WordIs (Str.ofString "name") (Str.ofString "A") 7 news v nw) NoExc := by
  intro dp un gd cn cs a ccd cl outer A₀ base h₀ L m s Q E B F X N T hk hd' hu hret hexc
  refine wpAny_call ?_
  k_dflt cell_enter
  refine (let ak := _; (?_ : wpAny _ ak _ _ _ _))
  w_top off
  k_with_none
  k_with "execs cons" => ((try k_fold); refine wpAny_execs_cons ?_; refine (let sk := _; (?_ : wpAny _ _ _ _ _ sk)))
  k_with "eval Call" => (k_here; (with_reducible show wpAny _ _ (eval (Expr.Call (Expr.Name _ _) _ [] _) _) _ _ _); k_dflt (refine Call_ ?_))
  k_with "exec Raise some none" => (k_here; (refine' raise_B ?_ ?R179.hh); (case hh => k_dflt rfl))
  k_with "call ref" => (k_here; (try refine (?_ : wpAny _ (PySem.Around.deeper _ _) _ _ _ _)); (with_reducible show wpAny _ _ (PySem.call (Value.ref 34) _ _) _ _ _); refine' c_basic ?R180.b1 ?R180.b2 ?R180.b3 ?R180.b4 ?R180.b5 ?R180.b6 ?R180.b7 ?R180.b8 ?R180.b9 ?_; (case b1 => k_asm); (case b2 => k_asm); (case b3 => k_asm); (case b4 => k_asm); (case b5 => k_asm); (case b6 => rfl); (case b7 => rfl); (case b8 => first | rfl | assumption); (case b9 => ktr_room); intro e' dx' oD' ta' h' tk' F' N' d1' d2' d3')
  k_with "RaiseB" => (refine' ⟨_, _, _, rfl, ?R181.r1, ?R181.r2, ?_⟩; (case r1 => exact (News.get (by assumption) (.head _))); (case r2 => exact (Frag.In.keeps (by assumption) (Fr.keep (by assumption))) _ _ (by k_dflt k_is)))
  k_with "leaving ref" => (k_here; first
  | (refine' leave_newB ?R182.k1 ?R182.k2 ?R182.k3 ?R182.k4 ?R182.k5 ?R182.k6 ?_; (case k1 => assumption); (case k2 => assumption); (case k3 => assumption); (case k4 => assumption); (case k5 => assumption); (case k6 => assumption); k_whole; intro h' R' U'; (try dsimp only at R' U' ⊢))
  | (refine' leave_onB ?R182.k1 ?R182.k2 ?R182.k3 ?R182.k4 ?_; (case k3 => assumption); (case k1 => assumption); (case k4 => assumption); (case k2 => assumption); k_whole; intro h' R' U'; (try dsimp only at R' U' ⊢)))
  k_with "ite" => (k_here; first | (refine' iteT ?R183.h ?_; (case h => decide +kernel)) | (refine' iteF ?R183.h ?_; (case h => decide +kernel)))
  k_with "call builtin:str.find" => (k_here; k_dflt (refine c_find4 ?_))
  k_with "subscriptTail Name Name str int" => (k_here; k_dflt (refine item_str (by decide +kernel) (by decide +kernel) (by decide +kernel) ?_); intro _)
  k_with "call ref" => (k_here; (try refine (?_ : wpAny _ (PySem.Around.deeper _ _) _ _ _ _)); (with_reducible show wpAny _ _ (PySem.call (Value.ref _) _ _) _ _ _); (try k_fold); refine wpAny_call ?_; k_dflt (refine' code_def ?R186.k1 ?R186.k2 ?R186.k3 ?R186.k4 ?R186.k5 ?R186.kA ?R186.kF ?R186.kK ?R186.k6 ?R186.k7 ?R186.k8 ?R186.k9 ?R186.kB ?_ ?R186.c2 ?R186.c3 ?R186.c4 ?R186.c5; (case kA => exact rfl); (case kF => exact rfl); (case kK => first | exact rfl | assumption); (case k1 => k_asm); (case k2 => k_asm); (case k3 => k_asm); (case k4 => k_asm); (case k5 => k_asm); (case k6 => k_is); (case k7 => k_is); (case k8 => ktr_room); (case k9 => exact BindsTo.of_eq rfl); (case c5 => decide); (case kB => exact locs rfl); (case c2 => exact rfl); (case c3 => exact rfl); (case c4 => exact rfl); k_whole; intro g' L' h' FG' F' N' B' X' T'; (try dsimp only); (try k_lift B'); (try k_fold)))
  k_with "call ref" => (k_here; (try refine (?_ : wpAny _ (PySem.Around.deeper _ _) _ _ _ _)); (with_reducible show wpAny _ _ (PySem.call (Value.ref 138) _ _) _ _ _); (try k_fold); k_dflt (refine' Ctr.use0 (c_is_letter _ _) ?R187.k1 ?R187.k2 ?R187.k3 ?R187.k4 ?R187.k5 ?R187.k6 ?R187.k7 ?R187.k8 ?_; tb_start; intro v' nw' h' tk' F' N' q'; obtain ⟨q1, q2⟩ := q'; (first | (replace q1 := q1.trans (congrArg Value.bool (show isLetS _ = true by decide +kernel))) | (replace q1 := q1.trans (congrArg Value.bool (show isLetS _ = false by decide +kernel)))); subst q1 q2; (try dsimp only)))
  k_with "call ref" => (k_here; (try refine (?_ : wpAny _ (PySem.Around.deeper _ _) _ _ _ _)); (with_reducible show wpAny _ _ (PySem.call (Value.ref 145) _ _) _ _ _); (try k_fold); k_dflt (refine' Ctr.use0 (c_is_figure _ _) ?R188.k1 ?R188.k2 ?R188.k3 ?R188.k4 ?R188.k5 ?R188.k6 ?R188.k7 ?R188.k8 ?_; tb_start; intro v' nw' h' tk' F' N' q'; obtain ⟨q1, q2⟩ := q'; (first | (replace q1 := q1.trans (congrArg Value.bool (show isFigS _ = true by decide +kernel))) | (replace q1 := q1.trans (congrArg Value.bool (show isFigS _ = false by decide +kernel)))); subst q1 q2; (try dsimp only)))
  k_with "call ref" => (k_here; (try refine (?_ : wpAny _ (PySem.Around.deeper _ _) _ _ _ _)); (with_reducible show wpAny _ _ (PySem.call (Value.ref 164) _ _) _ _ _); (try k_fold); k_dflt (refine' Ctr.use0 (c_skipped _ _ _ _ ?R189.p1 ?R189.p2) ?R189.k1 ?R189.k2 ?R189.k3 ?R189.k4 ?R189.k5 ?R189.k6 ?R189.k7 ?R189.k8 ?_; (case p1 => decide); (case p2 => decide +kernel); tb_start; intro v' nw' h' tk' F' N' q'; obtain ⟨⟨n', tq, q1, e', g', l'⟩, q2⟩ := q'; clear g' l'; (first | (replace e' : n' = 0 := e'.trans (by decide +kernel)) | (replace e' : n' = 1 := e'.trans (by decide +kernel)) | (replace e' : n' = 2 := e'.trans (by decide +kernel)) | (replace e' : n' = 3 := e'.trans (by decide +kernel)) | (replace e' : n' = 4 := e'.trans (by decide +kernel)) | (replace e' : n' = 5 := e'.trans (by decide +kernel)) | (replace e' : n' = 6 := e'.trans (by decide +kernel)) | (replace e' : n' = 7 := e'.trans (by decide +kernel)) | (replace e' : n' = 8 := e'.trans (by decide +kernel)) | (replace e' : n' = 9 := e'.trans (by decide +kernel)) | (replace e' : n' = 10 := e'.trans (by decide +kernel)) | (replace e' : n' = 11 := e'.trans (by decide +kernel)) | (replace e' : n' = 12 := e'.trans (by decide +kernel))); subst e'; subst q1 q2; (try dsimp only)))
  k_with "call ref" => (k_here; (try refine (?_ : wpAny _ (PySem.Around.deeper _ _) _ _ _ _)); (with_reducible show wpAny _ _ (PySem.call (Value.ref 157) _ _) _ _ _); (try k_fold); k_dflt (refine' Ctr.use0 (c_figures_end _ _ _ _ ?R190.p1 ?R190.p2) ?R190.k1 ?R190.k2 ?R190.k3 ?R190.k4 ?R190.k5 ?R190.k6 ?R190.k7 ?R190.k8 ?_; (case p1 => decide); (case p2 => decide +kernel); tb_start; intro v' nw' h' tk' F' N' q'; obtain ⟨⟨n', tq, q1, e', g', l'⟩, q2⟩ := q'; clear g' l'; (first | (replace e' : n' = 0 := e'.trans (by decide +kernel)) | (replace e' : n' = 1 := e'.trans (by decide +kernel)) | (replace e' : n' = 2 := e'.trans (by decide +kernel)) | (replace e' : n' = 3 := e'.trans (by decide +kernel)) | (replace e' : n' = 4 := e'.trans (by decide +kernel)) | (replace e' : n' = 5 := e'.trans (by decide +kernel)) | (replace e' : n' = 6 := e'.trans (by decide +kernel)) | (replace e' : n' = 7 := e'.trans (by decide +kernel)) | (replace e' : n' = 8 := e'.trans (by decide +kernel)) | (replace e' : n' = 9 := e'.trans (by decide +kernel)) | (replace e' : n' = 10 := e'.trans (by decide +kernel)) | (replace e' : n' = 11 := e'.trans (by decide +kernel)) | (replace e' : n' = 12 := e'.trans (by decide +kernel))); subst e'; subst q1 q2; (try dsimp only)))
  k_with "call ref" => (k_here; (try refine (?_ : wpAny _ (PySem.Around.deeper _ _) _ _ _ _)); (with_reducible show wpAny _ _ (PySem.call (Value.ref 150) _ _) _ _ _); (try k_fold); k_dflt (refine' Ctr.use0 (c_capital _ _ ?R191.p1 ?R191.p2 ?R191.p3) ?R191.k1 ?R191.k2 ?R191.k3 ?R191.k4 ?R191.k5 ?R191.k6 ?R191.k7 ?R191.k8 ?_; (case p1 => decide +kernel); (case p2 => decide +kernel); (case p3 => decide +kernel); tb_start; intro v' nw' h' tk' F' N' q'; obtain ⟨⟨tq, q1⟩, q2⟩ := q'; (first | (replace q1 := q1.trans (congrArg (Value.str · tq) (show capR _ = Str.ofString "PRINT" by decide +kernel))) | (replace q1 := q1.trans (congrArg (Value.str · tq) (show capR _ = Str.ofString "GOTO" by decide +kernel))) | (replace q1 := q1.trans (congrArg (Value.str · tq) (show capR _ = Str.ofString "REM" by decide +kernel))) | (replace q1 := q1.trans (congrArg (Value.str · tq) (show capR _ = Str.ofString "A" by decide +kernel))) | (replace q1 := q1.trans (congrArg (Value.str · tq) (show capR _ = Str.ofString "DATA" by decide +kernel))) | (replace q1 := q1.trans (congrArg (Value.str · tq) (show capR _ = Str.ofString "10" by decide +kernel))) | (replace q1 := q1.trans (congrArg (Value.str · tq) (show capR _ = Str.ofString "1" by decide +kernel)))); (try dsimp only at q1); subst q1 q2; (try dsimp only)))
  k_with "call ref" => (k_here; (try refine (?_ : wpAny _ (PySem.Around.deeper _ _) _ _ _ _)); (with_reducible show wpAny _ _ (PySem.call (Value.ref 206) _ _) _ _ _); (try k_fold); k_dflt (refine' Ctr.use0 (c_data_end _ _) ?R192.k1 ?R192.k2 ?R192.k3 ?R192.k4 ?R192.k5 ?R192.k6 ?R192.k7 ?R192.k8 ?_; tb_start; intro v' nw' h' tk' F' N' q'; obtain ⟨tq, q1, q2⟩ := q'; subst q1 q2; (try dsimp only)))
  k_with "call ref" => (k_here; (try refine (?_ : wpAny _ (PySem.Around.deeper _ _) _ _ _ _)); (with_reducible show wpAny _ _ (PySem.call (Value.ref 185) _ _) _ _ _); (try k_fold); k_dflt (refine' Ctr.use0 (c_name_end _ _ _ _ ?R193.p1 ?R193.p2) ?R193.k1 ?R193.k2 ?R193.k3 ?R193.k4 ?R193.k5 ?R193.k6 ?R193.k7 ?R193.k8 ?_; (case p1 => decide); (case p2 => decide +kernel); tb_start; intro v' nw' h' tk' F' N' q'; obtain ⟨n', tq, q1, e', q2⟩ := q'; (first | (replace e' : n' = 3 := e'.trans (by decide +kernel)) | (replace e' : n' = 4 := e'.trans (by decide +kernel))); subst e'; subst q1 q2; (try dsimp only)))
  k_with "call ref" => (k_here; (try refine (?_ : wpAny _ (PySem.Around.deeper _ _) _ _ _ _)); (with_reducible show wpAny _ _ (PySem.call (Value.ref 220) _ _) _ _ _); (try k_fold); k_dflt ((first | (refine' Ctr.use0 (c_word_at _ _ _ _ 5 (Str.ofString "PRINT") (by decide) (by decide +kernel) (by decide +kernel) (by decide) (by decide +kernel) (by decide +kernel) (by decide +kernel) (by decide +kernel) (by decide +kernel) (by decide +kernel) (by decide +kernel)) ?R194.k1 ?R194.k2 ?R194.k3 ?R194.k4 ?R194.k5 ?R194.k6 ?R194.k7 ?R194.k8 ?_) | (refine' Ctr.use0 (c_word_at _ _ _ _ 7 (Str.ofString "A") (by decide) (by decide +kernel) (by decide +kernel) (by decide) (by decide +kernel) (by decide +kernel) (by decide +kernel) (by decide +kernel) (by decide +kernel) (by decide +kernel) (by decide +kernel)) ?R194.k1 ?R194.k2 ?R194.k3 ?R194.k4 ?R194.k5 ?R194.k6 ?R194.k7 ?R194.k8 ?_) | (refine' Ctr.use0 (c_word_at _ _ _ _ 4 (Str.ofString "GOTO") (by decide) (by decide +kernel) (by decide +kernel) (by decide) (by decide +kernel) (by decide +kernel) (by decide +kernel) (by decide +kernel) (by decide +kernel) (by decide +kernel) (by decide +kernel)) ?R194.k1 ?R194.k2 ?R194.k3 ?R194.k4 ?R194.k5 ?R194.k6 ?R194.k7 ?R194.k8 ?_) | (refine' Ctr.use0 (c_word_at _ _ _ _ 1 (Str.ofString "A") (by decide) (by decide +kernel) (by decide +kernel) (by decide) (by decide +kernel) (by decide +kernel) (by decide +kernel) (by decide +kernel) (by decide +kernel) (by decide +kernel) (by decide +kernel)) ?R194.k1 ?R194.k2 ?R194.k3 ?R194.k4 ?R194.k5 ?R194.k6 ?R194.k7 ?R194.k8 ?_)); tb_start; intro v' nw' h' tk' F' N' q'; obtain ⟨P, L1, T1, te, t, t2, c, q1, q2, l1, l2, l3⟩ := q'; (first | (rw [kd_PRINT] at q2) | (rw [kd_GOTO] at q2) | (rw [kd_A] at q2)); subst q1 q2; (try dsimp only)))
  k_steps
  refine' hret _ _ _ _ ?rF ?rN ?rP
  case rF => k_asm
  case rN => k_asm
  case rP =>
    first
      | (refine ⟨_, _, _, _, _, _, _, rfl, rfl, ?_, ?_, by first | with_reducible assumption | exact allLt_all (And.right (show (_ : Prop) ∧ AllLt _ news by with_reducible assumption)) | exact allLt_all (And.right (And.right (show (_ : Prop) ∧ (_ : Prop) ∧ AllLt _ news by with_reducible assumption))) | exact allLt_all (And.right (And.right (And.right (show (_ : Prop) ∧ (_ : Prop) ∧ (_ : Prop) ∧ AllLt _ news by with_reducible assumption)))) | exact allLt_all (And.right (And.right (And.right (And.right (show (_ : Prop) ∧ (_ : Prop) ∧ (_ : Prop) ∧ (_ : Prop) ∧ AllLt _ news by with_reducible assumption)))))⟩ <;> (show (_ : Nat) < _; omega))
      | (refine ⟨_, _, _, _, _, _, _, rfl, by rw [show Txt.slice (Txt.slice (Str.ofString "REM A  B") (some 3) none) (some 1) none = Str.ofString "A  B" by decide +kernel]; rfl, ?_, ?_, by first | with_reducible assumption | exact allLt_all (And.right (show (_ : Prop) ∧ AllLt _ news by with_reducible assumption)) | exact allLt_all (And.right (And.right (show (_ : Prop) ∧ (_ : Prop) ∧ AllLt _ news by with_reducible assumption))) | exact allLt_all (And.right (And.right (And.right (show (_ : Prop) ∧ (_ : Prop) ∧ (_ : Prop) ∧ AllLt _ news by with_reducible assumption)))) | exact allLt_all (And.right (And.right (And.right (And.right (show (_ : Prop) ∧ (_ : Prop) ∧ (_ : Prop) ∧ (_ : Prop) ∧ AllLt _ news by with_reducible assumption)))))⟩ <;> (show (_ : Nat) < _; omega))
      | (refine ⟨_, _, _, _, _, _, _, rfl, by rw [show Txt.find3 (Str.ofString "PRINT \"X\"") (Str.ofString "\"") (6 + 1) = 8 by decide +kernel]; rfl, ?_, ?_, by first | with_reducible assumption | exact allLt_all (And.right (show (_ : Prop) ∧ AllLt _ news by with_reducible assumption)) | exact allLt_all (And.right (And.right (show (_ : Prop) ∧ (_ : Prop) ∧ AllLt _ news by with_reducible assumption))) | exact allLt_all (And.right (And.right (And.right (show (_ : Prop) ∧ (_ : Prop) ∧ (_ : Prop) ∧ AllLt _ news by with_reducible assumption)))) | exact allLt_all (And.right (And.right (And.right (And.right (show (_ : Prop) ∧ (_ : Prop) ∧ (_ : Prop) ∧ (_ : Prop) ∧ AllLt _ news by with_reducible assumption)))))⟩ <;> (show (_ : Nat) < _; omega))

set_option maxHeartbeats 4000000 in
theorem c_tok2 (t t2 : Tok) : Ctr w mean mg mb 227 10 news [.str (Str.ofString "GOTO 10") t, .int 0 t2] (fun v nw => WordIs (Str.ofString "word") (Str.ofString "GOTO") 4 news v nw) NoExc := by
  intro dp un gd cn cs a ccd cl outer A₀ base h₀ L m s Q E B F X N T hk hd' hu hret hexc
  refine wpAny_call ?_
  k_dflt cell_enter
  refine (let ak := _; (?_ : wpAny _ ak _ _ _ _))
  w_top off
  k_with_none
  k_with "execs cons" => ((try k_fold); refine wpAny_execs_cons ?_; refine (let sk := _; (?_ : wpAny _ _ _ _ _ sk)))
  k_with "eval Call" => (k_here; (with_reducible show wpAny _ _ (eval (Expr.Call (Expr.Name _ _) _ [] _) _) _ _ _); k_dflt (refine Call_ ?_))
  k_with "exec Raise some none" => (k_here; (refine' raise_B ?_ ?R179.hh); (case hh => k_dflt rfl))
  k_with "call ref" => (k_here; (try refine (?_ : wpAny _ (PySem.Around.deeper _ _) _ _ _ _)); (with_reducible show wpAny _ _ (PySem.call (Value.ref 34) _ _) _ _ _); refine' c_basic ?R180.b1 ?R180.b2 ?R180.b3 ?R180.b4 ?R180.b5 ?R180.b6 ?R180.b7 ?R180.b8 ?R180.b9 ?_; (case b1 => k_asm); (case b2 => k_asm); (case b3 => k_asm); (case b4 => k_asm); (case b5 => k_asm); (case b6 => rfl); (case b7 => rfl); (case b8 => first | rfl | assumption); (case b9 => ktr_room); intro e' dx' oD' ta' h' tk' F' N' d1' d2' d3')
  k_with "RaiseB" => (refine' ⟨_, _, _, rfl, ?R181.r1, ?R181.r2, ?_⟩; (case r1 => exact (News.get (by assumption) (.head _))); (case r2 => exact (Frag.In.keeps (by assumption) (Fr.keep (by assumption))) _ _ (by k_dflt k_is)))
  k_with "leaving ref" => (k_here; first
  | (refine' leave_newB ?R182.k1 ?R182.k2 ?R182.k3 ?R182.k4 ?R182.k5 ?R182.k6 ?_; (case k1 => assumption); (case k2 => assumption); (case k3 => assumption); (case k4 => assumption); (case k5 => assumption); (case k6 => assumption); k_whole; intro h' R' U'; (try dsimp only at R' U' ⊢))
  | (refine' leave_onB ?R182.k1 ?R182.k2 ?R182.k3 ?R182.k4 ?_; (case k3 => assumption); (case k1 => assumption); (case k4 => assumption); (case k2 => assumption); k_whole; intro h' R' U'; (try dsimp only at R' U' ⊢)))
  k_with "ite" => (k_here; first | (refine' iteT ?R183.h ?_; (case h => decide +kernel)) | (refine' iteF ?R183.h ?_; (case h => decide +kernel)))
  k_with "call builtin:str.find" => (k_here; k_dflt (refine c_find4 ?_))
  k_with "subscriptTail Name Name str int" => (k_here; k_dflt (refine item_str (by decide +kernel) (by decide +kernel) (by decide +kernel) ?_); intro _)
  k_with "call ref" => (k_here; (try refine (?_ : wpAny _ (PySem.Around.deeper _ _) _ _ _ _)); (with_reducible show wpAny _ _ (PySem.call (Value.ref _) _ _) _ _ _); (try k_fold); refine wpAny_call ?_; k_dflt (refine' code_def ?R186.k1 ?R186.k2 ?R186.k3 ?R186.k4 ?R186.k5 ?R186.kA ?R186.kF ?R186.kK ?R186.k6 ?R186.k7 ?R186.k8 ?R186.k9 ?R186.kB ?_ ?R186.c2 ?R186.c3 ?R186.c4 ?R186.c5; (case kA => exact rfl); (case kF => exact rfl); (case kK => first | exact rfl | assumption); (case k1 => k_asm); (case k2 => k_asm); (case k3 => k_asm); (case k4 => k_asm); (case k5 => k_asm); (case k6 => k_is); (case k7 => k_is); (case k8 => ktr_room); (case k9 => exact BindsTo.of_eq rfl); (case c5 => decide); (case kB => exact locs rfl); (case c2 => exact rfl); (case c3 => exact rfl); (case c4 => exact rfl); k_whole; intro g' L' h' FG' F' N' B' X' T'; (try dsimp only); (try k_lift B'); (try k_fold)))
  k_with "call ref" => (k_here; (try refine (?_ : wpAny _ (PySem.Around.deeper _ _) _ _ _ _)); (with_reducible show wpAny _ _ (PySem.call (Value.ref 138) _ _) _ _ _); (try k_fold); k_dflt (refine' Ctr.use0 (c_is_letter _ _) ?R187.k1 ?R187.k2 ?R187.k3 ?R187.k4 ?R187.k5 ?R187.k6 ?R187.k7 ?R187.k8 ?_; tb_start; intro v' nw' h' tk' F' N' q'; obtain ⟨q1, q2⟩ := q'; (first | (replace q1 := q1.trans (congrArg Value.bool (show isLetS _ = true by decide +kernel))) | (replace q1 := q1.trans (congrArg Value.bool (show isLetS _ = false by decide +kernel)))); subst q1 q2; (try dsimp only)))
  k_with "call ref" => (k_here; (try refine (?_ : wpAny _ (PySem.Around.deeper _ _) _ _ _ _)); (with_reducible show wpAny _ _ (PySem.call (Value.ref 145) _ _) _ _ _); (try k_fold); k_dflt (refine' Ctr.use0 (c_is_figure _ _) ?R188.k1 ?R188.k2 ?R188.k3 ?R188.k4 ?R188.k5 ?R188.k6 ?R188.k7 ?R188.k8 ?_; tb_start; intro v' nw' h' tk' F' N' q'; obtain ⟨q1, q2⟩ := q'; (first | (replace q1 := q1.trans (congrArg Value.bool (show isFigS _ = true by decide +kernel))) | (replace q1 := q1.trans (congrArg Value.bool (show isFigS _ = false by decide +kernel)))); subst q1 q2; (try dsimp only)))
  k_with "call ref" => (k_here; (try refine (?_ : wpAny _ (PySem.Around.deeper _ _) _ _ _ _)); (with_reducible show wpAny _ _ (PySem.call (Value.ref 164) _ _) _ _ _); (try k_fold); k_dflt (refine' Ctr.use0 (c_skipped _ _ _ _ ?R189.p1 ?R189.p2) ?R189.k1 ?R189.k2 ?R189.k3 ?R189.k4 ?R189.k5 ?R189.k6 ?R189.k7 ?R189.k8 ?_; (case p1 => decide); (case p2 => decide +kernel); tb_start; intro v' nw' h' tk' F' N' q'; obtain ⟨⟨n', tq, q1, e', g', l'⟩, q2⟩ := q'; clear g' l'; (first | (replace e' : n' = 0 := e'.trans (by decide +kernel)) | (replace e' : n' = 1 := e'.trans (by decide +kernel)) | (replace e' : n' = 2 := e'.trans (by decide +kernel)) | (replace e' : n' = 3 := e'.trans (by decide +kernel)) | (replace e' : n' = 4 := e'.trans (by decide +kernel)) | (replace e' : n' = 5 := e'.trans (by decide +kernel)) | (replace e' : n' = 6 := e'.trans (by decide +kernel)) | (replace e' : n' = 7 := e'.trans (by decide +kernel)) | (replace e' : n' = 8 := e'.trans (by decide +kernel)) | (replace e' : n' = 9 := e'.trans (by decide +kernel)) | (replace e' : n' = 10 := e'.trans (by decide +kernel)) | (replace e' : n' = 11 := e'.trans (by decide +kernel)) | (replace e' : n' = 12 := e'.trans (by decide +kernel))); subst e'; subst q1 q2; (try dsimp only)))
  k_with "call ref" => (k_here; (try refine (?_ : wpAny _ (PySem.Around.deeper _ _) _ _ _ _)); (with_reducible show wpAny _ _ (PySem.call (Value.ref 157) _ _) _ _ _); (try k_fold); k_dflt (refine' Ctr.use0 (c_figures_end _ _ _ _ ?R190.p1 ?R190.p2) ?R190.k1 ?R190.k2 ?R190.k3 ?R190.k4 ?R190.k5 ?R190.k6 ?R190.k7 ?R190.k8 ?_; (case p1 => decide); (case p2 => decide +kernel); tb_start; intro v' nw' h' tk' F' N' q'; obtain ⟨⟨n', tq, q1, e', g', l'⟩, q2⟩ := q'; clear g' l'; (first | (replace e' : n' = 0 := e'.trans (by decide +kernel)) | (replace e' : n' = 1 := e'.trans (by decide +kernel)) | (replace e' : n' = 2 := e'.trans (by decide +kernel)) | (replace e' : n' = 3 := e'.trans (by decide +kernel)) | (replace e' : n' = 4 := e'.trans (by decide +kernel)) | (replace e' : n' = 5 := e'.trans (by decide +kernel)) | (replace e' : n' = 6 := e'.trans (by decide +kernel)) | (replace e' : n' = 7 := e'.trans (by decide +kernel)) | (replace e' : n' = 8 := e'.trans (by decide +kernel)) | (replace e' : n' = 9 := e'.trans (by decide +kernel)) | (replace e' : n' = 10 := e'.trans (by decide +kernel)) | (replace e' : n' = 11 := e'.trans (by decide +kernel)) | (replace e' : n' = 12 := e'.trans (by decide +kernel))); subst e'; subst q1 q2; (try dsimp only)))
  k_with "call ref" => (k_here; (try refine (?_ : wpAny _ (PySem.Around.deeper _ _) _ _ _ _)); (with_reducible show wpAny _ _ (PySem.call (Value.ref 150) _ _) _ _ _); (try k_fold); k_dflt (refine' Ctr.use0 (c_capital _ _ ?R191.p1 ?R191.p2 ?R191.p3) ?R191.k1 ?R191.k2 ?R191.k3 ?R191.k4 ?R191.k5 ?R191.k6 ?R191.k7 ?R191.k8 ?_; (case p1 => decide +kernel); (case p2 => decide +kernel); (case p3 => decide +kernel); tb_start; intro v' nw' h' tk' F' N' q'; obtain ⟨⟨tq, q1⟩, q2⟩ := q'; (first | (replace q1 := q1.trans (congrArg (Value.str · tq) (show capR _ = Str.ofString "PRINT" by decide +kernel))) | (replace q1 := q1.trans (congrArg (Value.str · tq) (show capR _ = Str.ofString "GOTO" by decide +kernel))) | (replace q1 := q1.trans (congrArg (Value.str · tq) (show capR _ = Str.ofString "REM" by decide +kernel))) | (replace q1 := q1.trans (congrArg (Value.str · tq) (show capR _ = Str.ofString "A" by decide +kernel))) | (replace q1 := q1.trans (congrArg (Value.str · tq) (show capR _ = Str.ofString "DATA" by decide +kernel))) | (replace q1 := q1.trans (congrArg (Value.str · tq) (show capR _ = Str.ofString "10" by decide +kernel))) | (replace q1 := q1.trans (congrArg (Value.str · tq) (show capR _ = Str.ofString "1" by decide +kernel)))); (try dsimp only at q1); subst q1 q2; (try dsimp only)))
  k_with "call ref" => (k_here; (try refine (?_ : wpAny _ (PySem.Around.deeper _ _) _ _ _ _)); (with_reducible show wpAny _ _ (PySem.call (Value.ref 206) _ _) _ _ _); (try k_fold); k_dflt (refine' Ctr.use0 (c_data_end _ _) ?R192.k1 ?R192.k2 ?R192.k3 ?R192.k4 ?R192.k5 ?R192.k6 ?R192.k7 ?R192.k8 ?_; tb_start; intro v' nw' h' tk' F' N' q'; obtain ⟨tq, q1, q2⟩ := q'; subst q1 q2; (try dsimp only)))
  k_with "call ref" => (k_here; (try refine (?_ : wpAny _ (PySem.Around.deeper _ _) _ _ _ _)); (with_reducible show wpAny _ _ (PySem.call (Value.ref 185) _ _) _ _ _); (try k_fold); k_dflt (refine' Ctr.use0 (c_name_end _ _ _ _ ?R193.p1 ?R193.p2) ?R193.k1 ?R193.k2 ?R193.k3 ?R193.k4 ?R193.k5 ?R193.k6 ?R193.k7 ?R193.k8 ?_; (case p1 => decide); (case p2 => decide +kernel); tb_start; intro v' nw' h' tk' F' N' q'; obtain ⟨n', tq, q1, e', q2⟩ := q'; (first | (replace e' : n' = 3 := e'.trans (by decide +kernel)) | (replace e' : n' = 4 := e'.trans (by decide +kernel))); subst e'; subst q1 q2; (try dsimp only)))
  k_with "call ref" => (k_here; (try refine (?_ : wpAny _ (PySem.Around.deeper _ _) _ _ _ _)); (with_reducible show wpAny _ _ (PySem.call (Value.ref 220) _ _) _ _ _); (try k_fold); k_dflt ((first | (refine' Ctr.use0 (c_word_at _ _ _ _ 5 (Str.ofString "PRINT") (by decide) (by decide +kernel) (by decide +kernel) (by decide) (by decide +kernel) (by decide +kernel) (by decide +kernel) (by decide +kernel) (by decide +kernel) (by decide +kernel) (by decide +kernel)) ?R194.k1 ?R194.k2 ?R194.k3 ?R194.k4 ?R194.k5 ?R194.k6 ?R194.k7 ?R194.k8 ?_) | (refine' Ctr.use0 (c_word_at _ _ _ _ 7 (Str.ofString "A") (by decide) (by decide +kernel) (by decide +kernel) (by decide) (by decide +kernel) (by decide +kernel) (by decide +kernel) (by decide +kernel) (by decide +kernel) (by decide +kernel) (by decide +kernel)) ?R194.k1 ?R194.k2 ?R194.k3 ?R194.k4 ?R194.k5 ?R194.k6 ?R194.k7 ?R194.k8 ?_) | (refine' Ctr.use0 (c_word_at _ _ _ _ 4 (Str.ofString "GOTO") (by decide) (by decide +kernel) (by decide +kernel) (by decide) (by decide +kernel) (by decide +kernel) (by decide +kernel) (by decide +kernel) (by decide +kernel) (by decide +kernel) (by decide +kernel)) ?R194.k1 ?R194.k2 ?R194.k3 ?R194.k4 ?R194.k5 ?R194.k6 ?R194.k7 ?R194.k8 ?_) | (refine' Ctr.use0 (c_word_at _ _ _ _ 1 (Str.ofString "A") (by decide) (by decide +kernel) (by decide +kernel) (by decide) (by decide +kernel) (by decide +kernel) (by decide +kernel) (by decide +kernel) (by decide +kernel) (by decide +kernel) (by decide +kernel)) ?R194.k1 ?R194.k2 ?R194.k3 ?R194.k4 ?R194.k5 ?R194.k6 ?R194.k7 ?R194.k8 ?_)); tb_start; intro v' nw' h' tk' F' N' q'; obtain ⟨P, L1, T1, te, t, t2, c, q1, q2, l1, l2, l3⟩ := q'; (first | (rw [kd_PRINT] at q2) | (rw [kd_GOTO] at q2) | (rw [kd_A] at q2)); subst q1 q2; (try dsimp only)))
  k_steps
  refine' hret _ _ _ _ ?rF ?rN ?rP
  case rF => k_asm
  case rN => k_asm
  case rP =>
    first
      | (refine ⟨_, _, _, _, _, _, _, rfl, rfl, ?_, ?_, by first | with_reducible assumption | exact allLt_all (And.right (show (_ : Prop) ∧ AllLt _ news by with_reducible assumption)) | exact allLt_all (And.right (And.right (show (_ : Prop) ∧ (_ : Prop) ∧ AllLt _ news by with_reducible assumption))) | exact allLt_all (And.right (And.right (And.right (show (_ : Prop) ∧ (_ : Prop) ∧ (_ : Prop) ∧ AllLt _ news by with_reducible assumption)))) | exact allLt_all (And.right (And.right (And.right (And.right (show (_ : Prop) ∧ (_ : Prop) ∧ (_ : Prop) ∧ (_ : Prop) ∧ AllLt _ news by with_reducible assumption)))))⟩ <;> (show (_ : Nat) < _; omega))
      | (refine ⟨_, _, _, _, _, _, _, rfl, by rw [show Txt.slice (Txt.slice (Str.ofString "REM A  B") (some 3) none) (some 1) none = Str.ofString "A  B" by decide +kernel]; rfl, ?_, ?_, by first | with_reducible assumption | exact allLt_all (And.right (show (_ : Prop) ∧ AllLt _ news by with_reducible assumption)) | exact allLt_all (And.right (And.right (show (_ : Prop) ∧ (_ : Prop) ∧ AllLt _ news by with_reducible assumption))) | exact allLt_all (And.right (And.right (And.right (show (_ : Prop) ∧ (_ : Prop) ∧ (_ : Prop) ∧ AllLt _ news by with_reducible assumption)))) | exact allLt_all (And.right (And.right (And.right (And.right (show (_ : Prop) ∧ (_ : Prop) ∧ (_ : Prop) ∧ (_ : Prop) ∧ AllLt _ news by with_reducible assumption)))))⟩ <;> (show (_ : Nat) < _; omega))
      | (refine ⟨_, _, _, _, _, _, _, rfl, by rw [show Txt.find3 (Str.ofString "PRINT \"X\"") (Str.ofString "\"") (6 + 1) = 8 by decide +kernel]; rfl, ?_, ?_, by first | with_reducible assumption | exact allLt_all (And.right (show (_ : Prop) ∧ AllLt _ news by with_reducible assumption)) | exact allLt_all (And.right (And.right (show (_ : Prop) ∧ (_ : Prop) ∧ AllLt _ news by with_reducible assumption))) | exact allLt_all (And.right (And.right (And.right (show (_ : Prop) ∧ (_ : Prop) ∧ (_ : Prop) ∧ AllLt _ news by with_reducible assumption)))) | exact allLt_all (And.right (And.right (And.right (And.right (show (_ : Prop) ∧ (_ : Prop) ∧ (_ : Prop) ∧ (_ : Prop) ∧ AllLt _ news by with_reducible assumption)))))⟩ <;> (show (_ : Nat) < _; omega))

set_option maxHeartbeats 4000000 in
theorem c_tok3 (t t2 : Tok) : Ctr w mean mg mb 227 10 news [.str (Str.ofString "GOTO 10") t, .int 5 t2] (fun v nw => WordIs (Str.ofString "number") (Str.ofString "10") 7 news v nw) NoExc := by
  intro dp un gd cn cs a ccd cl outer A₀ base h₀ L m s Q E B F X N T hk hd' hu hret hexc
  refine wpAny_call ?_
  k_dflt cell_enter
  refine (let ak := _; (?_ : wpAny _ ak _ _ _ _))
  w_top off
  k_with_none
  k_with "execs cons" => ((try k_fold); refine wpAny_execs_cons ?_; refine (let sk := _; (?_ : wpAny _ _ _ _ _ sk)))
  k_with "eval Call" => (k_here; (with_reducible show wpAny _ _ (eval (Expr.Call (Expr.Name _ _) _ [] _) _) _ _ _); k_dflt (refine Call_ ?_))
  k_with "exec Raise some none" => (k_here; (refine' raise_B ?_ ?R179.hh); (case hh => k_dflt rfl))
  k_with "call ref" => (k_here; (try refine (?_ : wpAny _ (PySem.Around.deeper _ _) _ _ _ _)); (with_reducible show wpAny _ _ (PySem.call (Value.ref 34) _ _) _ _ _); refine' c_basic ?R180.b1 ?R180.b2 ?R180.b3 ?R180.b4 ?R180.b5 ?R180.b6 ?R180.b7 ?R180.b8 ?R180.b9 ?_; (case b1 => k_asm); (case b2 => k_asm); (case b3 => k_asm); (case b4 => k_asm); (case b5 => k_asm); (case b6 => rfl); (case b7 => rfl); (case b8 => first | rfl | assumption); (case b9 => ktr_room); intro e' dx' oD' ta' h' tk' F' N' d1' d2' d3')
  k_with "RaiseB" => (refine' ⟨_, _, _, rfl, ?R181.r1, ?R181.r2, ?_⟩; (case r1 => exact (News.get (by assumption) (.head _))); (case r2 => exact (Frag.In.keeps (by assumption) (Fr.keep (by assumption))) _ _ (by k_dflt k_is)))
  k_with "leaving ref" => (k_here; first
  | (refine' leave_newB ?R182.k1 ?R182.k2 ?R182.k3 ?R182.k4 ?R182.k5 ?R182.k6 ?_; (case k1 => assumption); (case k2 => assumption); (case k3 => assumption); (case k4 => assumption); (case k5 => assumption); (case k6 => assumption); k_whole; intro h' R' U'; (try dsimp only at R' U' ⊢))
  | (refine' leave_onB ?R182.k1 ?R182.k2 ?R182.k3 ?R182.k4 ?_; (case k3 => assumption); (case k1 => assumption); (case k4 => assumption); (case k2 => assumption); k_whole; intro h' R' U'; (try dsimp only at R' U' ⊢)))
  k_with "ite" => (k_here; first | (refine' iteT ?R183.h ?_; (case h => decide +kernel)) | (refine' iteF ?R183.h ?_; (case h => decide +kernel)))
  k_with "call builtin:str.find" => (k_here; k_dflt (refine c_find4 ?_))
  k_with "subscriptTail Name Name str int" => (k_here; k_dflt (refine item_str (by decide +kernel) (by decide +kernel) (by decide +kernel) ?_); intro _)
  k_with "call ref" => (k_here; (try refine (?_ : wpAny _ (PySem.Around.deeper _ _) _ _ _ _)); (with_reducible show wpAny _ _ (PySem.call (Value.ref _) _ _) _ _ _); (try k_fold); refine wpAny_call ?_; k_dflt (refine' code_def ?R186.k1 ?R186.k2 ?R186.k3 ?R186.k4 ?R186.k5 ?R186.kA ?R186.kF ?R186.kK ?R186.k6 ?R186.k7 ?R186.k8 ?R186.k9 ?R186.kB ?_ ?R186.c2 ?R186.c3 ?R186.c4 ?R186.c5; (case kA => exact rfl); (case kF => exact rfl); (case kK => first | exact rfl | assumption); (case k1 => k_asm); (case k2 => k_asm); (case k3 => k_asm); (case k4 => k_asm); (case k5 => k_asm); (case k6 => k_is); (case k7 => k_is); (case k8 => ktr_room); (case k9 => exact BindsTo.of_eq rfl); (case c5 => decide); (case kB => exact locs rfl); (case c2 => exact rfl); (case c3 => exact rfl); (case c4 => exact rfl); k_whole; intro g' L' h' FG' F' N' B' X' T'; (try dsimp only); (try k_lift B'); (try k_fold)))
  k_with "call ref" => (k_here; (try refine (?_ : wpAny _ (PySem.Around.deeper _ _) _ _ _ _)); (with_reducible show wpAny _ _ (PySem.call (Value.ref 138) _ _) _ _ _); (try k_fold); k_dflt (refine' Ctr.use0 (c_is_letter _ _) ?R187.k1 ?R187.k2 ?R187.k3 ?R187.k4 ?R187.k5 ?R187.k6 ?R187.k7 ?R187.k8 ?_; tb_start; intro v' nw' h' tk' F' N' q'; obtain ⟨q1, q2⟩ := q'; (first | (replace q1 := q1.trans (congrArg Value.bool (show isLetS _ = true by decide +kernel))) | (replace q1 := q1.trans (congrArg Value.bool (show isLetS _ = false by decide +kernel)))); subst q1 q2; (try dsimp only)))
  k_with "call ref" => (k_here; (try refine (?_ : wpAny _ (PySem.Around.deeper _ _) _ _ _ _)); (with_reducible show wpAny _ _ (PySem.call (Value.ref 145) _ _) _ _ _); (try k_fold); k_dflt (refine' Ctr.use0 (c_is_figure _ _) ?R188.k1 ?R188.k2 ?R188.k3 ?R188.k4 ?R188.k5 ?R188.k6 ?R188.k7 ?R188.k8 ?_; tb_start; intro v' nw' h' tk' F' N' q'; obtain ⟨q1, q2⟩ := q'; (first | (replace q1 := q1.trans (congrArg Value.bool (show isFigS _ = true by decide +kernel))) | (replace q1 := q1.trans (congrArg Value.bool (show isFigS _ = false by decide +kernel)))); subst q1 q2; (try dsimp only)))
  k_with "call ref" => (k_here; (try refine (?_ : wpAny _ (PySem.Around.deeper _ _) _ _ _ _)); (with_reducible show wpAny _ _ (PySem.call (Value.ref 164) _ _) _ _ _); (try k_fold); k_dflt (refine' Ctr.use0 (c_skipped _ _ _ _ ?R189.p1 ?R189.p2) ?R189.k1 ?R189.k2 ?R189.k3 ?R189.k4 ?R189.k5 ?R189.k6 ?R189.k7 ?R189.k8 ?_; (case p1 => decide); (case p2 => decide +kernel); tb_start; intro v' nw' h' tk' F' N' q'; obtain ⟨⟨n', tq, q1, e', g', l'⟩, q2⟩ := q'; clear g' l'; (first | (replace e' : n' = 0 := e'.trans (by decide +kernel)) | (replace e' : n' = 1 := e'.trans (by decide +kernel)) | (replace e' : n' = 2 := e'.trans (by decide +kernel)) | (replace e' : n' = 3 := e'.trans (by decide +kernel)) | (replace e' : n' = 4 := e'.trans (by decide +kernel)) | (replace e' : n' = 5 := e'.trans (by decide +kernel)) | (replace e' : n' = 6 := e'.trans (by decide +kernel)) | (replace e' : n' = 7 := e'.trans (by decide +kernel)) | (replace e' : n' = 8 := e'.trans (by decide +kernel)) | (replace e' : n' = 9 := e'.trans (by decide +kernel)) | (replace e' : n' = 10 := e'.trans (by decide +kernel)) | (replace e' : n' = 11 := e'.trans (by decide +kernel)) | (replace e' : n' = 12 := e'.trans (by decide +kernel))); subst e'; subst q1 q2; (try dsimp only)))
  k_with "call ref" => (k_here; (try refine (?_ : wpAny _ (PySem.Around.deeper _ _) _ _ _ _)); (with_reducible show wpAny _ _ (PySem.call (Value.ref 157) _ _) _ _ _); (try k_fold); k_dflt (refine' Ctr.use0 (c_figures_end _ _ _ _ ?R190.p1 ?R190.p2) ?R190.k1 ?R190.k2 ?R190.k3 ?R190.k4 ?R190.k5 ?R190.k6 ?R190.k7 ?R190.k8 ?_; (case p1 => decide); (case p2 => decide +kernel); tb_start; intro v' nw' h' tk' F' N' q'; obtain ⟨⟨n', tq, q1, e', g', l'⟩, q2⟩ := q'; clear g' l'; (first | (replace e' : n' = 0 := e'.trans (by decide +kernel)) | (replace e' : n' = 1 := e'.trans (by decide +kernel)) | (replace e' : n' = 2 := e'.trans (by decide +kernel)) | (replace e' : n' = 3 := e'.trans (by decide +kernel)) | (replace e' : n' = 4 := e'.trans (by decide +kernel)) | (replace e' : n' = 5 := e'.trans (by decide +kernel)) | (replace e' : n' = 6 := e'.trans (by decide +kernel)) | (replace e' : n' = 7 := e'.trans (by decide +kernel)) | (replace e' : n' = 8 := e'.trans (by decide +kernel)) | (replace e' : n' = 9 := e'.trans (by decide +kernel)) | (replace e' : n' = 10 := e'.trans (by decide +kernel)) | (replace e' : n' = 11 := e'.trans (by decide +kernel)) | (replace e' : n' = 12 := e'.trans (by decide +kernel))); subst e'; subst q1 q2; (try dsimp only)))
  k_with "call ref" => (k_here; (try refine (?_ : wpAny _ (PySem.Around.deeper _ _) _ _ _ _)); (with_reducible show wpAny _ _ (PySem.call (Value.ref 150) _ _) _ _ _); (try k_fold); k_dflt (refine' Ctr.use0 (c_capital _ _ ?R191.p1 ?R191.p2 ?R191.p3) ?R191.k1 ?R191.k2 ?R191.k3 ?R191.k4 ?R191.k5 ?R191.k6 ?R191.k7 ?R191.k8 ?_; (case p1 => decide +kernel); (case p2 => decide +kernel); (case p3 => decide +kernel); tb_start; intro v' nw' h' tk' F' N' q'; obtain ⟨⟨tq, q1⟩, q2⟩ := q'; (first | (replace q1 := q1.trans (congrArg (Value.str · tq) (show capR _ = Str.ofString "PRINT" by decide +kernel))) | (replace q1 := q1.trans (congrArg (Value.str · tq) (show capR _ = Str.ofString "GOTO" by decide +kernel))) | (replace q1 := q1.trans (congrArg (Value.str · tq) (show capR _ = Str.ofString "REM" by decide +kernel))) | (replace q1 := q1.trans (congrArg (Value.str · tq) (show capR _ = Str.ofString "A" by decide +kernel))) | (replace q1 := q1.trans (congrArg (Value.str · tq) (show capR _ = Str.ofString "DATA" by decide +kernel))) | (replace q1 := q1.trans (congrArg (Value.str · tq) (show capR _ = Str.ofString "10" by decide +kernel))) | (replace q1 := q1.trans (congrArg (Value.str · tq) (show capR _ = Str.ofString "1" by decide +kernel)))); (try dsimp only at q1); subst q1 q2; (try dsimp only)))
  k_with "call ref" => (k_here; (try refine (?_ : wpAny _ (PySem.Around.deeper _ _) _ _ _ _)); (with_reducible show wpAny _ _ (PySem.call (Value.ref 206) _ _) _ _ _); (try k_fold); k_dflt (refine' Ctr.use0 (c_data_end _ _) ?R192.k1 ?R192.k2 ?R192.k3 ?R192.k4 ?R192.k5 ?R192.k6 ?R192.k7 ?R192.k8 ?_; tb_start; intro v' nw' h' tk' F' N' q'; obtain ⟨tq, q1, q2⟩ := q'; subst q1 q2; (try dsimp only)))
  k_with "call ref" => (k_here; (try refine (?_ : wpAny _ (PySem.Around.deeper _ _) _ _ _ _)); (with_reducible show wpAny _ _ (PySem.call (Value.ref 185) _ _) _ _ _); (try k_fold); k_dflt (refine' Ctr.use0 (c_name_end _ _ _ _ ?R193.p1 ?R193.p2) ?R193.k1 ?R193.k2 ?R193.k3 ?R193.k4 ?R193.k5 ?R193.k6 ?R193.k7 ?R193.k8 ?_; (case p1 => decide); (case p2 => decide +kernel); tb_start; intro v' nw' h' tk' F' N' q'; obtain ⟨n', tq, q1, e', q2⟩ := q'; (first | (replace e' : n' = 3 := e'.trans (by decide +kernel)) | (replace e' : n' = 4 := e'.trans (by decide +kernel))); subst e'; subst q1 q2; (try dsimp only)))
  k_with "call ref" => (k_here; (try refine (?_ : wpAny _ (PySem.Around.deeper _ _) _ _ _ _)); (with_reducible show wpAny _ _ (PySem.call (Value.ref 220) _ _) _ _ _); (try k_fold); k_dflt ((first | (refine' Ctr.use0 (c_word_at _ _ _ _ 5 (Str.ofString "PRINT") (by decide) (by decide +kernel) (by decide +kernel) (by decide) (by decide +kernel) (by decide +kernel) (by decide +kernel) (by decide +kernel) (by decide +kernel) (by decide +kernel) (by decide +kernel)) ?R194.k1 ?R194.k2 ?R194.k3 ?R194.k4 ?R194.k5 ?R194.k6 ?R194.k7 ?R194.k8 ?_) | (refine' Ctr.use0 (c_word_at _ _ _ _ 7 (Str.ofString "A") (by decide) (by decide +kernel) (by decide +kernel) (by decide) (by decide +kernel) (by decide +kernel) (by decide +kernel) (by decide +kernel) (by decide +kernel) (by decide +kernel) (by decide +kernel)) ?R194.k1 ?R194.k2 ?R194.k3 ?R194.k4 ?R194.k5 ?R194.k6 ?R194.k7 ?R194.k8 ?_) | (refine' Ctr.use0 (c_word_at _ _ _ _ 4 (Str.ofString "GOTO") (by decide) (by decide +kernel) (by decide +kernel) (by decide) (by decide +kernel) (by decide +kernel) (by decide +kernel) (by decide +kernel) (by decide +kernel) (by decide +kernel) (by decide +kernel)) ?R194.k1 ?R194.k2 ?R194.k3 ?R194.k4 ?R194.k5 ?R194.k6 ?R194.k7 ?R194.k8 ?_) | (refine' Ctr.use0 (c_word_at _ _ _ _ 1 (Str.ofString "A") (by decide) (by decide +kernel) (by decide +kernel) (by decide) (by decide +kernel) (by decide +kernel) (by decide +kernel) (by decide +kernel) (by decide +kernel) (by decide +kernel) (by decide +kernel)) ?R194.k1 ?R194.k2 ?R194.k3 ?R194.k4 ?R194.k5 ?R194.k6 ?R194.k7 ?R194.k8 ?_)); tb_start; intro v' nw' h' tk' F' N' q'; obtain ⟨P, L1, T1, te, t, t2, c, q1, q2, l1, l2, l3⟩ := q'; (first | (rw [kd_PRINT] at q2) | (rw [kd_GOTO] at q2) | (rw [kd_A] at q2)); subst q1 q2; (try dsimp only)))
  k_steps
  refine' hret _ _ _ _ ?rF ?rN ?rP
  case rF => k_asm
  case rN => exact News.cut4 (News.cut3 (by with_reducible assumption))
  case rP =>
    first
      | (refine ⟨_, _, _, _, _, _, _, rfl, rfl, ?_, ?_, by first | with_reducible assumption | exact allLt_all (And.right (show (_ : Prop) ∧ AllLt _ news by with_reducible assumption)) | exact allLt_all (And.right (And.right (show (_ : Prop) ∧ (_ : Prop) ∧ AllLt _ news by with_reducible assumption))) | exact allLt_all (And.right (And.right (And.right (show (_ : Prop) ∧ (_ : Prop) ∧ (_ : Prop) ∧ AllLt _ news by with_reducible assumption)))) | exact allLt_all (And.right (And.right (And.right (And.right (show (_ : Prop) ∧ (_ : Prop) ∧ (_ : Prop) ∧ (_ : Prop) ∧ AllLt _ news by with_reducible assumption)))))⟩ <;> (show (_ : Nat) < _; omega))
      | (refine ⟨_, _, _, _, _, _, _, rfl, by rw [show Txt.slice (Txt.slice (Str.ofString "REM A  B") (some 3) none) (some 1) none = Str.ofString "A  B" by decide +kernel]; rfl, ?_, ?_, by first | with_reducible assumption | exact allLt_all (And.right (show (_ : Prop) ∧ AllLt _ news by with_reducible assumption)) | exact allLt_all (And.right (And.right (show (_ : Prop) ∧ (_ : Prop) ∧ AllLt _ news by with_reducible assumption))) | exact allLt_all (And.right (And.right (And.right (show (_ : Prop) ∧ (_ : Prop) ∧ (_ : Prop) ∧ AllLt _ news by with_reducible assumption)))) | exact allLt_all (And.right (And.right (And.right (And.right (show (_ : Prop) ∧ (_ : Prop) ∧ (_ : Prop) ∧ (_ : Prop) ∧ AllLt _ news by with_reducible assumption)))))⟩ <;> (show (_ : Nat) < _; omega))
      | (refine ⟨_, _, _, _, _, _, _, rfl, by rw [show Txt.find3 (Str.ofString "PRINT \"X\"") (Str.ofString "\"") (6 + 1) = 8 by decide +kernel]; rfl, ?_, ?_, by first | with_reducible assumption | exact allLt_all (And.right (show (_ : Prop) ∧ AllLt _ news by with_reducible assumption)) | exact allLt_all (And.right (And.right (show (_ : Prop) ∧ (_ : Prop) ∧ AllLt _ news by with_reducible assumption))) | exact allLt_all (And.right (And.right (And.right (show (_ : Prop) ∧ (_ : Prop) ∧ (_ : Prop) ∧ AllLt _ news by with_reducible assumption)))) | exact allLt_all (And.right (And.right (And.right (And.right (show (_ : Prop) ∧ (_ : Prop) ∧ (_ : Prop) ∧ (_ : Prop) ∧ AllLt _ news by with_reducible assumption)))))⟩ <;> (show (_ : Nat) < _; omega))

set_option maxHeartbeats 4000000 in
theorem c_tok4 (t t2 : Tok) : Ctr w mean mg mb 227 10 news [.str (Str.ofString "REM A  B") t, .int 0 t2] (fun v nw => WordIs (Str.ofString "rem") (Str.ofString "A  B") 8 news v nw) NoExc := by
  intro dp un gd cn cs a ccd cl outer A₀ base h₀ L m s Q E B F X N T hk hd' hu hret hexc
  refine wpAny_call ?_
  k_dflt cell_enter
  refine (let ak := _; (?_ : wpAny _ ak _ _ _ _))
  w_top off
  k_with_none
  k_with "execs cons" => ((try k_fold); refine wpAny_execs_cons ?_; refine (let sk := _; (?_ : wpAny _ _ _ _ _ sk)))
  k_with "eval Call" => (k_here; (with_reducible show wpAny _ _ (eval (Expr.Call (Expr.Name _ _) _ [] _) _) _ _ _); k_dflt (refine Call_ ?_))
  k_with "exec Raise some none" => (k_here; (refine' raise_B ?_ ?R179.hh); (case hh => k_dflt rfl))
  k_with "call ref" => (k_here; (try refine (?_ : wpAny _ (PySem.Around.deeper _ _) _ _ _ _)); (with_reducible show wpAny _ _ (PySem.call (Value.ref 34) _ _) _ _ _); refine' c_basic ?R180.b1 ?R180.b2 ?R180.b3 ?R180.b4 ?R180.b5 ?R180.b6 ?R180.b7 ?R180.b8 ?R180.b9 ?_; (case b1 => k_asm); (case b2 => k_asm); (case b3 => k_asm); (case b4 => k_asm); (case b5 => k_asm); (case b6 => rfl); (case b7 => rfl); (case b8 => first | rfl | assumption); (case b9 => ktr_room); intro e' dx' oD' ta' h' tk' F' N' d1' d2' d3')
  k_with "RaiseB" => (refine' ⟨_, _, _, rfl, ?R181.r1, ?R181.r2, ?_⟩; (case r1 => exact (News.get (by assumption) (.head _))); (case r2 => exact (Frag.In.keeps (by assumption) (Fr.keep (by assumption))) _ _ (by k_dflt k_is)))
  k_with "leaving ref" => (k_here; first
  | (refine' leave_newB ?R182.k1 ?R182.k2 ?R182.k3 ?R182.k4 ?R182.k5 ?R182.k6 ?_; (case k1 => assumption); (case k2 => assumption); (case k3 => assumption); (case k4 => assumption); (case k5 => assumption); (case k6 => assumption); k_whole; intro h' R' U'; (try dsimp only at R' U' ⊢))
  | (refine' leave_onB ?R182.k1 ?R182.k2 ?R182.k3 ?R182.k4 ?_; (case k3 => assumption); (case k1 => assumption); (case k4 => assumption); (case k2 => assumption); k_whole; intro h' R' U'; (try dsimp only at R' U' ⊢)))
  k_with "ite" => (k_here; first | (refine' iteT ?R183.h ?_; (case h => decide +kernel)) | (refine' iteF ?R183.h ?_; (case h => decide +kernel)))
  k_with "call builtin:str.find" => (k_here; k_dflt (refine c_find4 ?_))
  k_with "subscriptTail Name Name str int" => (k_here; k_dflt (refine item_str (by decide +kernel) (by decide +kernel) (by decide +kernel) ?_); intro _)
  k_with "call ref" => (k_here; (try refine (?_ : wpAny _ (PySem.Around.deeper _ _) _ _ _ _)); (with_reducible show wpAny _ _ (PySem.call (Value.ref _) _ _) _ _ _); (try k_fold); refine wpAny_call ?_; k_dflt (refine' code_def ?R186.k1 ?R186.k2 ?R186.k3 ?R186.k4 ?R186.k5 ?R186.kA ?R186.kF ?R186.kK ?R186.k6 ?R186.k7 ?R186.k8 ?R186.k9 ?R186.kB ?_ ?R186.c2 ?R186.c3 ?R186.c4 ?R186.c5; (case kA => exact rfl); (case kF => exact rfl); (case kK => first | exact rfl | assumption); (case k1 => k_asm); (case k2 => k_asm); (case k3 => k_asm); (case k4 => k_asm); (case k5 => k_asm); (case k6 => k_is); (case k7 => k_is); (case k8 => ktr_room); (case k9 => exact BindsTo.of_eq rfl); (case c5 => decide); (case kB => exact locs rfl); (case c2 => exact rfl); (case c3 => exact rfl); (case c4 => exact rfl); k_whole; intro g' L' h' FG' F' N' B' X' T'; (try dsimp only); (try k_lift B'); (try k_fold)))
  k_with "call ref" => (k_here; (try refine (?_ : wpAny _ (PySem.Around.deeper _ _) _ _ _ _)); (with_reducible show wpAny _ _ (PySem.call (Value.ref 138) _ _) _ _ _); (try k_fold); k_dflt (refine' Ctr.use0 (c_is_letter _ _) ?R187.k1 ?R187.k2 ?R187.k3 ?R187.k4 ?R187.k5 ?R187.k6 ?R187.k7 ?R187.k8 ?_; tb_start; intro v' nw' h' tk' F' N' q'; obtain ⟨q1, q2⟩ := q'; (first | (replace q1 := q1.trans (congrArg Value.bool (show isLetS _ = true by decide +kernel))) | (replace q1 := q1.trans (congrArg Value.bool (show isLetS _ = false by decide +kernel)))); subst q1 q2; (try dsimp only)))
  k_with "call ref" => (k_here; (try refine (?_ : wpAny _ (PySem.Around.deeper _ _) _ _ _ _)); (with_reducible show wpAny _ _ (PySem.call (Value.ref 145) _ _) _ _ _); (try k_fold); k_dflt (refine' Ctr.use0 (c_is_figure _ _) ?R188.k1 ?R188.k2 ?R188.k3 ?R188.k4 ?R188.k5 ?R188.k6 ?R188.k7 ?R188.k8 ?_; tb_start; intro v' nw' h' tk' F' N' q'; obtain ⟨q1, q2⟩ := q'; (first | (replace q1 := q1.trans (congrArg Value.bool (show isFigS _ = true by decide +kernel))) | (replace q1 := q1.trans (congrArg Value.bool (show isFigS _ = false by decide +kernel)))); subst q1 q2; (try dsimp only)))
  k_with "call ref" => (k_here; (try refine (?_ : wpAny _ (PySem.Around.deeper _ _) _ _ _ _)); (with_reducible show wpAny _ _ (PySem.call (Value.ref 164) _ _) _ _ _); (try k_fold); k_dflt (refine' Ctr.use0 (c_skipped _ _ _ _ ?R189.p1 ?R189.p2) ?R189.k1 ?R189.k2 ?R189.k3 ?R189.k4 ?R189.k5 ?R189.k6 ?R189.k7 ?R189.k8 ?_; (case p1 => decide); (case p2 => decide +kernel); tb_start; intro v' nw' h' tk' F' N' q'; obtain ⟨⟨n', tq, q1, e', g', l'⟩, q2⟩ := q'; clear g' l'; (first | (replace e' : n' = 0 := e'.trans (by decide +kernel)) | (replace e' : n' = 1 := e'.trans (by decide +kernel)) | (replace e' : n' = 2 := e'.trans (by decide +kernel)) | (replace e' : n' = 3 := e'.trans (by decide +kernel)) | (replace e' : n' = 4 := e'.trans (by decide +kernel)) | (replace e' : n' = 5 := e'.trans (by decide +kernel)) | (replace e' : n' = 6 := e'.trans (by decide +kernel)) | (replace e' : n' = 7 := e'.trans (by decide +kernel)) | (replace e' : n' = 8 := e'.trans (by decide +kernel)) | (replace e' : n' = 9 := e'.trans (by decide +kernel)) | (replace e' : n' = 10 := e'.trans (by decide +kernel)) | (replace e' : n' = 11 := e'.trans (by decide +kernel)) | (replace e' : n' = 12 := e'.trans (by decide +kernel))); subst e'; subst q1 q2; (try dsimp only)))
  k_with "call ref" => (k_here; (try refine (?_ : wpAny _ (PySem.Around.deeper _ _) _ _ _ _)); (with_reducible show wpAny _ _ (PySem.call (Value.ref 157) _ _) _ _ _); (try k_fold); k_dflt (refine' Ctr.use0 (c_figures_end _ _ _ _ ?R190.p1 ?R190.p2) ?R190.k1 ?R190.k2 ?R190.k3 ?R190.k4 ?R190.k5 ?R190.k6 ?R190.k7 ?R190.k8 ?_; (case p1 => decide); (case p2 => decide +kernel); tb_start; intro v' nw' h' tk' F' N' q'; obtain ⟨⟨n', tq, q1, e', g', l'⟩, q2⟩ := q'; clear g' l'; (first | (replace e' : n' = 0 := e'.trans (by decide +kernel)) | (replace e' : n' = 1 := e'.trans (by decide +kernel)) | (replace e' : n' = 2 := e'.trans (by decide +kernel)) | (replace e' : n' = 3 := e'.trans (by decide +kernel)) | (replace e' : n' = 4 := e'.trans (by decide +kernel)) | (replace e' : n' = 5 := e'.trans (by decide +kernel)) | (replace e' : n' = 6 := e'.trans (by decide +kernel)) | (replace e' : n' = 7 := e'.trans (by decide +kernel)) | (replace e' : n' = 8 := e'.trans (by decide +kernel)) | (replace e' : n' = 9 := e'.trans (by decide +kernel)) | (replace e' : n' = 10 := e'.trans (by decide +kernel)) | (replace e' : n' = 11 := e'.trans (by decide +kernel)) | (replace e' : n' = 12 := e'.trans (by decide +kernel))); subst e'; subst q1 q2; (try dsimp only)))
  k_with "call ref" => (k_here; (try refine (?_ : wpAny _ (PySem.Around.deeper _ _) _ _ _ _)); (with_reducible show wpAny _ _ (PySem.call (Value.ref 150) _ _) _ _ _); (try k_fold); k_dflt (refine' Ctr.use0 (c_capital _ _ ?R191.p1 ?R191.p2 ?R191.p3) ?R191.k1 ?R191.k2 ?R191.k3 ?R191.k4 ?R191.k5 ?R191.k6 ?R191.k7 ?R191.k8 ?_; (case p1 => decide +kernel); (case p2 => decide +kernel); (case p3 => decide +kernel); tb_start; intro v' nw' h' tk' F' N' q'; obtain ⟨⟨tq, q1⟩, q2⟩ := q'; (first | (replace q1 := q1.trans (congrArg (Value.str · tq) (show capR _ = Str.ofString "PRINT" by decide +kernel))) | (replace q1 := q1.trans (congrArg (Value.str · tq) (show capR _ = Str.ofString "GOTO" by decide +kernel))) | (replace q1 := q1.trans (congrArg (Value.str · tq) (show capR _ = Str.ofString "REM" by decide +kernel))) | (replace q1 := q1.trans (congrArg (Value.str · tq) (show capR _ = Str.ofString "A" by decide +kernel))) | (replace q1 := q1.trans (congrArg (Value.str · tq) (show capR _ = Str.ofString "DATA" by decide +kernel))) | (replace q1 := q1.trans (congrArg (Value.str · tq) (show capR _ = Str.ofString "10" by decide +kernel))) | (replace q1 := q1.trans (congrArg (Value.str · tq) (show capR _ = Str.ofString "1" by decide +kernel)))); (try dsimp only at q1); subst q1 q2; (try dsimp only)))
  k_with "call ref" => (k_here; (try refine (?_ : wpAny _ (PySem.Around.deeper _ _) _ _ _ _)); (with_reducible show wpAny _ _ (PySem.call (Value.ref 206) _ _) _ _ _); (try k_fold); k_dflt (refine' Ctr.use0 (c_data_end _ _) ?R192.k1 ?R192.k2 ?R192.k3 ?R192.k4 ?R192.k5 ?R192.k6 ?R192.k7 ?R192.k8 ?_; tb_start; intro v' nw' h' tk' F' N' q'; obtain ⟨tq, q1, q2⟩ := q'; subst q1 q2; (try dsimp only)))
  k_with "call ref" => (k_here; (try refine (?_ : wpAny _ (PySem.Around.deeper _ _) _ _ _ _)); (with_reducible show wpAny _ _ (PySem.call (Value.ref 185) _ _) _ _ _); (try k_fold); k_dflt (refine' Ctr.use0 (c_name_end _ _ _ _ ?R193.p1 ?R193.p2) ?R193.k1 ?R193.k2 ?R193.k3 ?R193.k4 ?R193.k5 ?R193.k6 ?R193.k7 ?R193.k8 ?_; (case p1 => decide); (case p2 => decide +kernel); tb_start; intro v' nw' h' tk' F' N' q'; obtain ⟨n', tq, q1, e', q2⟩ := q'; (first | (replace e' : n' = 3 := e'.trans (by decide +kernel)) | (replace e' : n' = 4 := e'.trans (by decide +kernel))); subst e'; subst q1 q2; (try dsimp only)))
  k_with "call ref" => (k_here; (try refine (?_ : wpAny _ (PySem.Around.deeper _ _) _ _ _ _)); (with_reducible show wpAny _ _ (PySem.call (Value.ref 220) _ _) _ _ _); (try k_fold); k_dflt ((first | (refine' Ctr.use0 (c_word_at _ _ _ _ 5 (Str.ofString "PRINT") (by decide) (by decide +kernel) (by decide +kernel) (by decide) (by decide +kernel) (by decide +kernel) (by decide +kernel) (by decide +kernel) (by decide +kernel) (by decide +kernel) (by decide +kernel)) ?R194.k1 ?R194.k2 ?R194.k3 ?R194.k4 ?R194.k5 ?R194.k6 ?R194.k7 ?R194.k8 ?_) | (refine' Ctr.use0 (c_word_at _ _ _ _ 7 (Str.ofString "A") (by decide) (by decide +kernel) (by decide +kernel) (by decide) (by decide +kernel) (by decide +kernel) (by decide +kernel) (by decide +kernel) (by decide +kernel) (by decide +kernel) (by decide +kernel)) ?R194.k1 ?R194.k2 ?R194.k3 ?R194.k4 ?R194.k5 ?R194.k6 ?R194.k7 ?R194.k8 ?_) | (refine' Ctr.use0 (c_word_at _ _ _ _ 4 (Str.ofString "GOTO") (by decide) (by decide +kernel) (by decide +kernel) (by decide) (by decide +kernel) (by decide +kernel) (by decide +kernel) (by decide +kernel) (by decide +kernel) (by decide +kernel) (by decide +kernel)) ?R194.k1 ?R194.k2 ?R194.k3 ?R194.k4 ?R194.k5 ?R194.k6 ?R194.k7 ?R194.k8 ?_) | (refine' Ctr.use0 (c_word_at _ _ _ _ 1 (Str.ofString "A") (by decide) (by decide +kernel) (by decide +kernel) (by decide) (by decide +kernel) (by decide +kernel) (by decide +kernel) (by decide +kernel) (by decide +kernel) (by decide +kernel) (by decide +kernel)) ?R194.k1 ?R194.k2 ?R194.k3 ?R194.k4 ?R194.k5 ?R194.k6 ?R194.k7 ?R194.k8 ?_)); tb_start; intro v' nw' h' tk' F' N' q'; obtain ⟨P, L1, T1, te, t, t2, c, q1, q2, l1, l2, l3⟩ := q'; (first | (rw [kd_PRINT] at q2) | (rw [kd_GOTO] at q2) | (rw [kd_A] at q2)); subst q1 q2; (try dsimp only)))
  k_steps
  refine' hret _ _ _ _ ?rF ?rN ?rP
  case rF => k_asm
  case rN => k_asm
  case rP =>
    first
      | (refine ⟨_, _, _, _, _, _, _, rfl, rfl, ?_, ?_, by first | with_reducible assumption | exact allLt_all (And.right (show (_ : Prop) ∧ AllLt _ news by with_reducible assumption)) | exact allLt_all (And.right (And.right (show (_ : Prop) ∧ (_ : Prop) ∧ AllLt _ news by with_reducible assumption))) | exact allLt_all (And.right (And.right (And.right (show (_ : Prop) ∧ (_ : Prop) ∧ (_ : Prop) ∧ AllLt _ news by with_reducible assumption)))) | exact allLt_all (And.right (And.right (And.right (And.right (show (_ : Prop) ∧ (_ : Prop) ∧ (_ : Prop) ∧ (_ : Prop) ∧ AllLt _ news by with_reducible assumption)))))⟩ <;> (show (_ : Nat) < _; omega))
      | (refine ⟨_, _, _, _, _, _, _, rfl, by rw [show Txt.slice (Txt.slice (Str.ofString "REM A  B") (some 3) none) (some 1) none = Str.ofString "A  B" by decide +kernel]; rfl, ?_, ?_, by first | with_reducible assumption | exact allLt_all (And.right (show (_ : Prop) ∧ AllLt _ news by with_reducible assumption)) | exact allLt_all (And.right (And.right (show (_ : Prop) ∧ (_ : Prop) ∧ AllLt _ news by with_reducible assumption))) | exact allLt_all (And.right (And.right (And.right (show (_ : Prop) ∧ (_ : Prop) ∧ (_ : Prop) ∧ AllLt _ news by with_reducible assumption)))) | exact allLt_all (And.right (And.right (And.right (And.right (show (_ : Prop) ∧ (_ : Prop) ∧ (_ : Prop) ∧ (_ : Prop) ∧ AllLt _ news by with_reducible assumption)))))⟩ <;> (show (_ : Nat) < _; omega))
      | (refine ⟨_, _, _, _, _, _, _, rfl, by rw [show Txt.find3 (Str.ofString "PRINT \"X\"") (Str.ofString "\"") (6 + 1) = 8 by decide +kernel]; rfl, ?_, ?_, by first | with_reducible assumption | exact allLt_all (And.right (show (_ : Prop) ∧ AllLt _ news by with_reducible assumption)) | exact allLt_all (And.right (And.right (show (_ : Prop) ∧ (_ : Prop) ∧ AllLt _ news by with_reducible assumption))) | exact allLt_all (And.right (And.right (And.right (show (_ : Prop) ∧ (_ : Prop) ∧ (_ : Prop) ∧ AllLt _ news by with_reducible assumption)))) | exact allLt_all (And.right (And.right (And.right (And.right (show (_ : Prop) ∧ (_ : Prop) ∧ (_ : Prop) ∧ (_ : Prop) ∧ AllLt _ news by with_reducible assumption)))))⟩ <;> (show (_ : Nat) < _; omega))

set_option maxHeartbeats 4000000 in
theorem c_tok5 (t t2 : Tok) : Ctr w mean mg mb 227 10 news [.str (Str.ofString "A=1") t, .int 0 t2] (fun v nw => WordIs (Str.ofString "name") (Str.ofString "A") 1 news v nw) NoExc := by
  intro dp un gd cn cs a ccd cl outer A₀ base h₀ L m s Q E B F X N T hk hd' hu hret hexc
  refine wpAny_call ?_
  k_dflt cell_enter
  refine (let ak := _; (?_ : wpAny _ ak _ _ _ _))
  w_top off
  k_with_none
  k_with "execs cons" => ((try k_fold); refine wpAny_execs_cons ?_; refine (let sk := _; (?_ : wpAny _ _ _ _ _ sk)))
  k_with "eval Call" => (k_here; (with_reducible show wpAny _ _ (eval (Expr.Call (Expr.Name _ _) _ [] _) _) _ _ _); k_dflt (refine Call_ ?_))
  k_with "exec Raise some none" => (k_here; (refine' raise_B ?_ ?R179.hh); (case hh => k_dflt rfl))
  k_with "call ref" => (k_here; (try refine (?_ : wpAny _ (PySem.Around.deeper _ _) _ _ _ _)); (with_reducible show wpAny _ _ (PySem.call (Value.ref 34) _ _) _ _ _); refine' c_basic ?R180.b1 ?R180.b2 ?R180.b3 ?R180.b4 ?R180.b5 ?R180.b6 ?R180.b7 ?R180.b8 ?R180.b9 ?_; (case b1 => k_asm); (case b2 => k_asm); (case b3 => k_asm); (case b4 => k_asm); (case b5 => k_asm); (case b6 => rfl); (case b7 => rfl); (case b8 => first | rfl | assumption); (case b9 => ktr_room); intro e' dx' oD' ta' h' tk' F' N' d1' d2' d3')
  k_with "RaiseB" => (refine' ⟨_, _, _, rfl, ?R181.r1, ?R181.r2, ?_⟩; (case r1 => exact (News.get (by assumption) (.head _))); (case r2 => exact (Frag.In.keeps (by assumption) (Fr.keep (by assumption))) _ _ (by k_dflt k_is)))
  k_with "leaving ref" => (k_here; first
  | (refine' leave_newB ?R182.k1 ?R182.k2 ?R182.k3 ?R182.k4 ?R182.k5 ?R182.k6 ?_; (case k1 => assumption); (case k2 => assumption); (case k3 => assumption); (case k4 => assumption); (case k5 => assumption); (case k6 => assumption); k_whole; intro h' R' U'; (try dsimp only at R' U' ⊢))
  | (refine' leave_onB ?R182.k1 ?R182.k2 ?R182.k3 ?R182.k4 ?_; (case k3 => assumption); (case k1 => assumption); (case k4 => assumption); (case k2 => assumption); k_whole; intro h' R' U'; (try dsimp only at R' U' ⊢)))
  k_with "ite" => (k_here; first | (refine' iteT ?R183.h ?_; (case h => decide +kernel)) | (refine' iteF ?R183.h ?_; (case h => decide +kernel)))
  k_with "call builtin:str.find" => (k_here; k_dflt (refine c_find4 ?_))
  k_with "subscriptTail Name Name str int" => (k_here; k_dflt (refine item_str (by decide +kernel) (by decide +kernel) (by decide +kernel) ?_); intro _)
  k_with "call ref" => (k_here; (try refine (?_ : wpAny _ (PySem.Around.deeper _ _) _ _ _ _)); (with_reducible show wpAny _ _ (PySem.call (Value.ref _) _ _) _ _ _); (try k_fold); refine wpAny_call ?_; k_dflt (refine' code_def ?R186.k1 ?R186.k2 ?R186.k3 ?R186.k4 ?R186.k5 ?R186.kA ?R186.kF ?R186.kK ?R186.k6 ?R186.k7 ?R186.k8 ?R186.k9 ?R186.kB ?_ ?R186.c2 ?R186.c3 ?R186.c4 ?R186.c5; (case kA => exact rfl); (case kF => exact rfl); (case kK => first | exact rfl | assumption); (case k1 => k_asm); (case k2 => k_asm); (case k3 => k_asm); (case k4 => k_asm); (case k5 => k_asm); (case k6 => k_is); (case k7 => k_is); (case k8 => ktr_room); (case k9 => exact BindsTo.of_eq rfl); (case c5 => decide); (case kB => exact locs rfl); (case c2 => exact rfl); (case c3 => exact rfl); (case c4 => exact rfl); k_whole; intro g' L' h' FG' F' N' B' X' T'; (try dsimp only); (try k_lift B'); (try k_fold)))
  k_with "call ref" => (k_here; (try refine (?_ : wpAny _ (PySem.Around.deeper _ _) _ _ _ _)); (with_reducible show wpAny _ _ (PySem.call (Value.ref 138) _ _) _ _ _); (try k_fold); k_dflt (refine' Ctr.use0 (c_is_letter _ _) ?R187.k1 ?R187.k2 ?R187.k3 ?R187.k4 ?R187.k5 ?R187.k6 ?R187.k7 ?R187.k8 ?_; tb_start; intro v' nw' h' tk' F' N' q'; obtain ⟨q1, q2⟩ := q'; (first | (replace q1 := q1.trans (congrArg Value.bool (show isLetS _ = true by decide +kernel))) | (replace q1 := q1.trans (congrArg Value.bool (show isLetS _ = false by decide +kernel)))); subst q1 q2; (try dsimp only)))
  k_with "call ref" => (k_here; (try refine (?_ : wpAny _ (PySem.Around.deeper _ _) _ _ _ _)); (with_reducible show wpAny _ _ (PySem.call (Value.ref 145) _ _) _ _ _); (try k_fold); k_dflt (refine' Ctr.use0 (c_is_figure _ _) ?R188.k1 ?R188.k2 ?R188.k3 ?R188.k4 ?R188.k5 ?R188.k6 ?R188.k7 ?R188.k8 ?_; tb_start; intro v' nw' h' tk' F' N' q'; obtain ⟨q1, q2⟩ := q'; (first | (replace q1 := q1.trans (congrArg Value.bool (show isFigS _ = true by decide +kernel))) | (replace q1 := q1.trans (congrArg Value.bool (show isFigS _ = false by decide +kernel)))); subst q1 q2; (try dsimp only)))
  k_with "call ref" => (k_here; (try refine (?_ : wpAny _ (PySem.Around.deeper _ _) _ _ _ _)); (with_reducible show wpAny _ _ (PySem.call (Value.ref 164) _ _) _ _ _); (try k_fold); k_dflt (refine' Ctr.use0 (c_skipped _ _ _ _ ?R189.p1 ?R189.p2) ?R189.k1 ?R189.k2 ?R189.k3 ?R189.k4 ?R189.k5 ?R189.k6 ?R189.k7 ?R189.k8 ?_; (case p1 => decide); (case p2 => decide +kernel); tb_start; intro v' nw' h' tk' F' N' q'; obtain ⟨⟨n', tq, q1, e', g', l'⟩, q2⟩ := q'; clear g' l'; (first | (replace e' : n' = 0 := e'.trans (by decide +kernel)) | (replace e' : n' = 1 := e'.trans (by decide +kernel)) | (replace e' : n' = 2 := e'.trans (by decide +kernel)) | (replace e' : n' = 3 := e'.trans (by decide +kernel)) | (replace e' : n' = 4 := e'.trans (by decide +kernel)) | (replace e' : n' = 5 := e'.trans (by decide +kernel)) | (replace e' : n' = 6 := e'.trans (by decide +kernel)) | (replace e' : n' = 7 := e'.trans (by decide +kernel)) | (replace e' : n' = 8 := e'.trans (by decide +kernel)) | (replace e' : n' = 9 := e'.trans (by decide +kernel)) | (replace e' : n' = 10 := e'.trans (by decide +kernel)) | (replace e' : n' = 11 := e'.trans (by decide +kernel)) | (replace e' : n' = 12 := e'.trans (by decide +kernel))); subst e'; subst q1 q2; (try dsimp only)))
  k_with "call ref" => (k_here; (try refine (?_ : wpAny _ (PySem.Around.deeper _ _) _ _ _ _)); (with_reducible show wpAny _ _ (PySem.call (Value.ref 157) _ _) _ _ _); (try k_fold); k_dflt (refine' Ctr.use0 (c_figures_end _ _ _ _ ?R190.p1 ?R190.p2) ?R190.k1 ?R190.k2 ?R190.k3 ?R190.k4 ?R190.k5 ?R190.k6 ?R190.k7 ?R190.k8 ?_; (case p1 => decide); (case p2 => decide +kernel); tb_start; intro v' nw' h' tk' F' N' q'; obtain ⟨⟨n', tq, q1, e', g', l'⟩, q2⟩ := q'; clear g' l'; (first | (replace e' : n' = 0 := e'.trans (by decide +kernel)) | (replace e' : n' = 1 := e'.trans (by decide +kernel)) | (replace e' : n' = 2 := e'.trans (by decide +kernel)) | (replace e' : n' = 3 := e'.trans (by decide +kernel)) | (replace e' : n' = 4 := e'.trans (by decide +kernel)) | (replace e' : n' = 5 := e'.trans (by decide +kernel)) | (replace e' : n' = 6 := e'.trans (by decide +kernel)) | (replace e' : n' = 7 := e'.trans (by decide +kernel)) | (replace e' : n' = 8 := e'.trans (by decide +kernel)) | (replace e' : n' = 9 := e'.trans (by decide +kernel)) | (replace e' : n' = 10 := e'.trans (by decide +kernel)) | (replace e' : n' = 11 := e'.trans (by decide +kernel)) | (replace e' : n' = 12 := e'.trans (by decide +kernel))); subst e'; subst q1 q2; (try dsimp only)))
  k_with "call ref" => (k_here; (try refine (?_ : wpAny _ (PySem.Around.deeper _ _) _ _ _ _)); (with_reducible show wpAny _ _ (PySem.call (Value.ref 150) _ _) _ _ _); (try k_fold); k_dflt (refine' Ctr.use0 (c_capital _ _ ?R191.p1 ?R191.p2 ?R191.p3) ?R191.k1 ?R191.k2 ?R191.k3 ?R191.k4 ?R191.k5 ?R191.k6 ?R191.k7 ?R191.k8 ?_; (case p1 => decide +kernel); (case p2 => decide +kernel); (case p3 => decide +kernel); tb_start; intro v' nw' h' tk' F' N' q'; obtain ⟨⟨tq, q1⟩, q2⟩ := q'; (first | (replace q1 := q1.trans (congrArg (Value.str · tq) (show capR _ = Str.ofString "PRINT" by decide +kernel))) | (replace q1 := q1.trans (congrArg (Value.str · tq) (show capR _ = Str.ofString "GOTO" by decide +kernel))) | (replace q1 := q1.trans (congrArg (Value.str · tq) (show capR _ = Str.ofString "REM" by decide +kernel))) | (replace q1 := q1.trans (congrArg (Value.str · tq) (show capR _ = Str.ofString "A" by decide +kernel))) | (replace q1 := q1.trans (congrArg (Value.str · tq) (show capR _ = Str.ofString "DATA" by decide +kernel))) | (replace q1 := q1.trans (congrArg (Value.str · tq) (show capR _ = Str.ofString "10" by decide +kernel))) | (replace q1 := q1.trans (congrArg (Value.str · tq) (show capR _ = Str.ofString "1" by decide +kernel)))); (try dsimp only at q1); subst q1 q2; (try dsimp only)))
  k_with "call ref" => (k_here; (try refine (?_ : wpAny _ (PySem.Around.deeper _ _) _ _ _ _)); (with_reducible show wpAny _ _ (PySem.call (Value.ref 206) _ _) _ _ _); (try k_fold); k_dflt (refine' Ctr.use0 (c_data_end _ _) ?R192.k1 ?R192.k2 ?R192.k3 ?R192.k4 ?R192.k5 ?R192.k6 ?R192.k7 ?R192.k8 ?_; tb_start; intro v' nw' h' tk' F' N' q'; obtain ⟨tq, q1, q2⟩ := q'; subst q1 q2; (try dsimp only)))
  k_with "call ref" => (k_here; (try refine (?_ : wpAny _ (PySem.Around.deeper _ _) _ _ _ _)); (with_reducible show wpAny _ _ (PySem.call (Value.ref 185) _ _) _ _ _); (try k_fold); k_dflt (refine' Ctr.use0 (c_name_end _ _ _ _ ?R193.p1 ?R193.p2) ?R193.k1 ?R193.k2 ?R193.k3 ?R193.k4 ?R193.k5 ?R193.k6 ?R193.k7 ?R193.k8 ?_; (case p1 => decide); (case p2 => decide +kernel); tb_start; intro v' nw' h' tk' F' N' q'; obtain ⟨n', tq, q1, e', q2⟩ := q'; (first | (replace e' : n' = 3 := e'.trans (by decide +kernel)) | (replace e' : n' = 4 := e'.trans (by decide +kernel))); subst e'; subst q1 q2; (try dsimp only)))
  k_with "call ref" => (k_here; (try refine (?_ : wpAny _ (PySem.Around.deeper _ _) _ _ _ _)); (with_reducible show wpAny _ _ (PySem.call (Value.ref 220) _ _) _ _ _); (try k_fold); k_dflt ((first | (refine' Ctr.use0 (c_word_at _ _ _ _ 5 (Str.ofString "PRINT") (by decide) (by decide +kernel) (by decide +kernel) (by decide) (by decide +kernel) (by decide +kernel) (by decide +kernel) (by decide +kernel) (by decide +kernel) (by decide +kernel) (by decide +kernel)) ?R194.k1 ?R194.k2 ?R194.k3 ?R194.k4 ?R194.k5 ?R194.k6 ?R194.k7 ?R194.k8 ?_) | (refine' Ctr.use0 (c_word_at _ _ _ _ 7 (Str.ofString "A") (by decide) (by decide +kernel) (by decide +kernel) (by decide) (by decide +kernel) (by decide +kernel) (by decide +kernel) (by decide +kernel) (by decide +kernel) (by decide +kernel) (by decide +kernel)) ?R194.k1 ?R194.k2 ?R194.k3 ?R194.k4 ?R194.k5 ?R194.k6 ?R194.k7 ?R194.k8 ?_) | (refine' Ctr.use0 (c_word_at _ _ _ _ 4 (Str.ofString "GOTO") (by decide) (by decide +kernel) (by decide +kernel) (by decide) (by decide +kernel) (by decide +kernel) (by decide +kernel) (by decide +kernel) (by decide +kernel) (by decide +kernel) (by decide +kernel)) ?R194.k1 ?R194.k2 ?R194.k3 ?R194.k4 ?R194.k5 ?R194.k6 ?R194.k7 ?R194.k8 ?_) | (refine' Ctr.use0 (c_word_at _ _ _ _ 1 (Str.ofString "A") (by decide) (by decide +kernel) (by decide +kernel) (by decide) (by decide +kernel) (by decide +kernel) (by decide +kernel) (by decide +kernel) (by decide +kernel) (by decide +kernel) (by decide +kernel)) ?R194.k1 ?R194.k2 ?R194.k3 ?R194.k4 ?R194.k5 ?R194.k6 ?R194.k7 ?R194.k8 ?_)); tb_start; intro v' nw' h' tk' F' N' q'; obtain ⟨P, L1, T1, te, t, t2, c, q1, q2, l1, l2, l3⟩ := q'; (first | (rw [kd_PRINT] at q2) | (rw [kd_GOTO] at q2) | (rw [kd_A] at q2)); subst q1 q2; (try dsimp only)))
  k_steps
  refine' hret _ _ _ _ ?rF ?rN ?rP
  case rF => k_asm
  case rN => k_asm
  case rP =>
    first
      | (refine ⟨_, _, _, _, _, _, _, rfl, rfl, ?_, ?_, by first | with_reducible assumption | exact allLt_all (And.right (show (_ : Prop) ∧ AllLt _ news by with_reducible assumption)) | exact allLt_all (And.right (And.right (show (_ : Prop) ∧ (_ : Prop) ∧ AllLt _ news by with_reducible assumption))) | exact allLt_all (And.right (And.right (And.right (show (_ : Prop) ∧ (_ : Prop) ∧ (_ : Prop) ∧ AllLt _ news by with_reducible assumption)))) | exact allLt_all (And.right (And.right (And.right (And.right (show (_ : Prop) ∧ (_ : Prop) ∧ (_ : Prop) ∧ (_ : Prop) ∧ AllLt _ news by with_reducible assumption)))))⟩ <;> (show (_ : Nat) < _; omega))
      | (refine ⟨_, _, _, _, _, _, _, rfl, by rw [show Txt.slice (Txt.slice (Str.ofString "REM A  B") (some 3) none) (some 1) none = Str.ofString "A  B" by decide +kernel]; rfl, ?_, ?_, by first | with_reducible assumption | exact allLt_all (And.right (show (_ : Prop) ∧ AllLt _ news by with_reducible assumption)) | exact allLt_all (And.right (And.right (show (_ : Prop) ∧ (_ : Prop) ∧ AllLt _ news by with_reducible assumption))) | exact allLt_all (And.right (And.right (And.right (show (_ : Prop) ∧ (_ : Prop) ∧ (_ : Prop) ∧ AllLt _ news by with_reducible assumption)))) | exact allLt_all (And.right (And.right (And.right (And.right (show (_ : Prop) ∧ (_ : Prop) ∧ (_ : Prop) ∧ (_ : Prop) ∧ AllLt _ news by with_reducible assumption)))))⟩ <;> (show (_ : Nat) < _; omega))
      | (refine ⟨_, _, _, _, _, _, _, rfl, by rw [show Txt.find3 (Str.ofString "PRINT \"X\"") (Str.ofString "\"") (6 + 1) = 8 by decide +kernel]; rfl, ?_, ?_, by first | with_reducible assumption | exact allLt_all (And.right (show (_ : Prop) ∧ AllLt _ news by with_reducible assumption)) | exact allLt_all (And.right (And.right (show (_ : Prop) ∧ (_ : Prop) ∧ AllLt _ news by with_reducible assumption))) | exact allLt_all (And.right (And.right (And.right (show (_ : Prop) ∧ (_ : Prop) ∧ (_ : Prop) ∧ AllLt _ news by with_reducible assumption)))) | exact allLt_all (And.right (And.right (And.right (And.right (show (_ : Prop) ∧ (_ : Prop) ∧ (_ : Prop) ∧ (_ : Prop) ∧ AllLt _ news by with_reducible assumption)))))⟩ <;> (show (_ : Nat) < _; omega))

set_option maxHeartbeats 4000000 in
theorem c_tok6 (t t2 : Tok) : Ctr w mean mg mb 227 10 news [.str (Str.ofString "A=1") t, .int 1 t2] (fun v nw => WordIs (Str.ofString "sign") (Str.ofString "=") 2 news v nw) NoExc := by
  intro dp un gd cn cs a ccd cl outer A₀ base h₀ L m s Q E B F X N T hk hd' hu hret hexc
  refine wpAny_call ?_
  k_dflt cell_enter
  refine (let ak := _; (?_ : wpAny _ ak _ _ _ _))
  w_top off
  k_with_none
  k_with "execs cons" => ((try k_fold); refine wpAny_execs_cons ?_; refine (let sk := _; (?_ : wpAny _ _ _ _ _ sk)))
  k_with "eval Call" => (k_here; (with_reducible show wpAny _ _ (eval (Expr.Call (Expr.Name _ _) _ [] _) _) _ _ _); k_dflt (refine Call_ ?_))
  k_with "exec Raise some none" => (k_here; (refine' raise_B ?_ ?R179.hh); (case hh => k_dflt rfl))
  k_with "call ref" => (k_here; (try refine (?_ : wpAny _ (PySem.Around.deeper _ _) _ _ _ _)); (with_reducible show wpAny _ _ (PySem.call (Value.ref 34) _ _) _ _ _); refine' c_basic ?R180.b1 ?R180.b2 ?R180.b3 ?R180.b4 ?R180.b5 ?R180.b6 ?R180.b7 ?R180.b8 ?R180.b9 ?_; (case b1 => k_asm); (case b2 => k_asm); (case b3 => k_asm); (case b4 => k_asm); (case b5 => k_asm); (case b6 => rfl); (case b7 => rfl); (case b8 => first | rfl | assumption); (case b9 => ktr_room); intro e' dx' oD' ta' h' tk' F' N' d1' d2' d3')
  k_with "RaiseB" => (refine' ⟨_, _, _, rfl, ?R181.r1, ?R181.r2, ?_⟩; (case r1 => exact (News.get (by assumption) (.head _))); (case r2 => exact (Frag.In.keeps (by assumption) (Fr.keep (by assumption))) _ _ (by k_dflt k_is)))
  k_with "leaving ref" => (k_here; first
  | (refine' leave_newB ?R182.k1 ?R182.k2 ?R182.k3 ?R182.k4 ?R182.k5 ?R182.k6 ?_; (case k1 => assumption); (case k2 => assumption); (case k3 => assumption); (case k4 => assumption); (case k5 => assumption); (case k6 => assumption); k_whole; intro h' R' U'; (try dsimp only at R' U' ⊢))
  | (refine' leave_onB ?R182.k1 ?R182.k2 ?R182.k3 ?R182.k4 ?_; (case k3 => assumption); (case k1 => assumption); (case k4 => assumption); (case k2 => assumption); k_whole; intro h' R' U'; (try dsimp only at R' U' ⊢)))
  k_with "ite" => (k_here; first | (refine' iteT ?R183.h ?_; (case h => decide +kernel)) | (refine' iteF ?R183.h ?_; (case h => decide +kernel)))
  k_with "call builtin:str.find" => (k_here; k_dflt (refine c_find4 ?_))
  k_with "subscriptTail Name Name str int" => (k_here; k_dflt (refine item_str (by decide +kernel) (by decide +kernel) (by decide +kernel) ?_); intro _)
  k_with "call ref" => (k_here; (try refine (?_ : wpAny _ (PySem.Around.deeper _ _) _ _ _ _)); (with_reducible show wpAny _ _ (PySem.call (Value.ref _) _ _) _ _ _); (try k_fold); refine wpAny_call ?_; k_dflt (refine' code_def ?R186.k1 ?R186.k2 ?R186.k3 ?R186.k4 ?R186.k5 ?R186.kA ?R186.kF ?R186.kK ?R186.k6 ?R186.k7 ?R186.k8 ?R186.k9 ?R186.kB ?_ ?R186.c2 ?R186.c3 ?R186.c4 ?R186.c5; (case kA => exact rfl); (case kF => exact rfl); (case kK => first | exact rfl | assumption); (case k1 => k_asm); (case k2 => k_asm); (case k3 => k_asm); (case k4 => k_asm); (case k5 => k_asm); (case k6 => k_is); (case k7 => k_is); (case k8 => ktr_room); (case k9 => exact BindsTo.of_eq rfl); (case c5 => decide); (case kB => exact locs rfl); (case c2 => exact rfl); (case c3 => exact rfl); (case c4 => exact rfl); k_whole; intro g' L' h' FG' F' N' B' X' T'; (try dsimp only); (try k_lift B'); (try k_fold)))
  k_with "call ref" => (k_here; (try refine (?_ : wpAny _ (PySem.Around.deeper _ _) _ _ _ _)); (with_reducible show wpAny _ _ (PySem.call (Value.ref 138) _ _) _ _ _); (try k_fold); k_dflt (refine' Ctr.use0 (c_is_letter _ _) ?R187.k1 ?R187.k2 ?R187.k3 ?R187.k4 ?R187.k5 ?R187.k6 ?R187.k7 ?R187.k8 ?_; tb_start; intro v' nw' h' tk' F' N' q'; obtain ⟨q1, q2⟩ := q'; (first | (replace q1 := q1.trans (congrArg Value.bool (show isLetS _ = true by decide +kernel))) | (replace q1 := q1.trans (congrArg Value.bool (show isLetS _ = false by decide +kernel)))); subst q1 q2; (try dsimp only)))
  k_with "call ref" => (k_here; (try refine (?_ : wpAny _ (PySem.Around.deeper _ _) _ _ _ _)); (with_reducible show wpAny _ _ (PySem.call (Value.ref 145) _ _) _ _ _); (try k_fold); k_dflt (refine' Ctr.use0 (c_is_figure _ _) ?R188.k1 ?R188.k2 ?R188.k3 ?R188.k4 ?R188.k5 ?R188.k6 ?R188.k7 ?R188.k8 ?_; tb_start; intro v' nw' h' tk' F' N' q'; obtain ⟨q1, q2⟩ := q'; (first | (replace q1 := q1.trans (congrArg Value.bool (show isFigS _ = true by decide +kernel))) | (replace q1 := q1.trans (congrArg Value.bool (show isFigS _ = false by decide +kernel)))); subst q1 q2; (try dsimp only)))
  k_with "call ref" => (k_here; (try refine (?_ : wpAny _ (PySem.Around.deeper _ _) _ _ _ _)); (with_reducible show wpAny _ _ (PySem.call (Value.ref 164) _ _) _ _ _); (try k_fold); k_dflt (refine' Ctr.use0 (c_skipped _ _ _ _ ?R189.p1 ?R189.p2) ?R189.k1 ?R189.k2 ?R189.k3 ?R189.k4 ?R189.k5 ?R189.k6 ?R189.k7 ?R189.k8 ?_; (case p1 => decide); (case p2 => decide +kernel); tb_start; intro v' nw' h' tk' F' N' q'; obtain ⟨⟨n', tq, q1, e', g', l'⟩, q2⟩ := q'; clear g' l'; (first | (replace e' : n' = 0 := e'.trans (by decide +kernel)) | (replace e' : n' = 1 := e'.trans (by decide +kernel)) | (replace e' : n' = 2 := e'.trans (by decide +kernel)) | (replace e' : n' = 3 := e'.trans (by decide +kernel)) | (replace e' : n' = 4 := e'.trans (by decide +kernel)) | (replace e' : n' = 5 := e'.trans (by decide +kernel)) | (replace e' : n' = 6 := e'.trans (by decide +kernel)) | (replace e' : n' = 7 := e'.trans (by decide +kernel)) | (replace e' : n' = 8 := e'.trans (by decide +kernel)) | (replace e' : n' = 9 := e'.trans (by decide +kernel)) | (replace e' : n' = 10 := e'.trans (by decide +kernel)) | (replace e' : n' = 11 := e'.trans (by decide +kernel)) | (replace e' : n' = 12 := e'.trans (by decide +kernel))); subst e'; subst q1 q2; (try dsimp only)))
  k_with "call ref" => (k_here; (try refine (?_ : wpAny _ (PySem.Around.deeper _ _) _ _ _ _)); (with_reducible show wpAny _ _ (PySem.call (Value.ref 157) _ _) _ _ _); (try k_fold); k_dflt (refine' Ctr.use0 (c_figures_end _ _ _ _ ?R190.p1 ?R190.p2) ?R190.k1 ?R190.k2 ?R190.k3 ?R190.k4 ?R190.k5 ?R190.k6 ?R190.k7 ?R190.k8 ?_; (case p1 => decide); (case p2 => decide +kernel); tb_start; intro v' nw' h' tk' F' N' q'; obtain ⟨⟨n', tq, q1, e', g', l'⟩, q2⟩ := q'; clear g' l'; (first | (replace e' : n' = 0 := e'.trans (by decide +kernel)) | (replace e' : n' = 1 := e'.trans (by decide +kernel)) | (replace e' : n' = 2 := e'.trans (by decide +kernel)) | (replace e' : n' = 3 := e'.trans (by decide +kernel)) | (replace e' : n' = 4 := e'.trans (by decide +kernel)) | (replace e' : n' = 5 := e'.trans (by decide +kernel)) | (replace e' : n' = 6 := e'.trans (by decide +kernel)) | (replace e' : n' = 7 := e'.trans (by decide +kernel)) | (replace e' : n' = 8 := e'.trans (by decide +kernel)) | (replace e' : n' = 9 := e'.trans (by decide +kernel)) | (replace e' : n' = 10 := e'.trans (by decide +kernel)) | (replace e' : n' = 11 := e'.trans (by decide +kernel)) | (replace e' : n' = 12 := e'.trans (by decide +kernel))); subst e'; subst q1 q2; (try dsimp only)))
  k_with "call ref" => (k_here; (try refine (?_ : wpAny _ (PySem.Around.deeper _ _) _ _ _ _)); (with_reducible show wpAny _ _ (PySem.call (Value.ref 150) _ _) _ _ _); (try k_fold); k_dflt (refine' Ctr.use0 (c_capital _ _ ?R191.p1 ?R191.p2 ?R191.p3) ?R191.k1 ?R191.k2 ?R191.k3 ?R191.k4 ?R191.k5 ?R191.k6 ?R191.k7 ?R191.k8 ?_; (case p1 => decide +kernel); (case p2 => decide +kernel); (case p3 => decide +kernel); tb_start; intro v' nw' h' tk' F' N' q'; obtain ⟨⟨tq, q1⟩, q2⟩ := q'; (first | (replace q1 := q1.trans (congrArg (Value.str · tq) (show capR _ = Str.ofString "PRINT" by decide +kernel))) | (replace q1 := q1.trans (congrArg (Value.str · tq) (show capR _ = Str.ofString "GOTO" by decide +kernel))) | (replace q1 := q1.trans (congrArg (Value.str · tq) (show capR _ = Str.ofString "REM" by decide +kernel))) | (replace q1 := q1.trans (congrArg (Value.str · tq) (show capR _ = Str.ofString "A" by decide +kernel))) | (replace q1 := q1.trans (congrArg (Value.str · tq) (show capR _ = Str.ofString "DATA" by decide +kernel))) | (replace q1 := q1.trans (congrArg (Value.str · tq) (show capR _ = Str.ofString "10" by decide +kernel))) | (replace q1 := q1.trans (congrArg (Value.str · tq) (show capR _ = Str.ofString "1" by decide +kernel)))); (try dsimp only at q1); subst q1 q2; (try dsimp only)))
  k_with "call ref" => (k_here; (try refine (?_ : wpAny _ (PySem.Around.deeper _ _) _ _ _ _)); (with_reducible show wpAny _ _ (PySem.call (Value.ref 206) _ _) _ _ _); (try k_fold); k_dflt (refine' Ctr.use0 (c_data_end _ _) ?R192.k1 ?R192.k2 ?R192.k3 ?R192.k4 ?R192.k5 ?R192.k6 ?R192.k7 ?R192.k8 ?_; tb_start; intro v' nw' h' tk' F' N' q'; obtain ⟨tq, q1, q2⟩ := q'; subst q1 q2; (try dsimp only)))
  k_with "call ref" => (k_here; (try refine (?_ : wpAny _ (PySem.Around.deeper _ _) _ _ _ _)); (with_reducible show wpAny _ _ (PySem.call (Value.ref 185) _ _) _ _ _); (try k_fold); k_dflt (refine' Ctr.use0 (c_name_end _ _ _ _ ?R193.p1 ?R193.p2) ?R193.k1 ?R193.k2 ?R193.k3 ?R193.k4 ?R193.k5 ?R193.k6 ?R193.k7 ?R193.k8 ?_; (case p1 => decide); (case p2 => decide +kernel); tb_start; intro v' nw' h' tk' F' N' q'; obtain ⟨n', tq, q1, e', q2⟩ := q'; (first | (replace e' : n' = 3 := e'.trans (by decide +kernel)) | (replace e' : n' = 4 := e'.trans (by decide +kernel))); subst e'; subst q1 q2; (try dsimp only)))
  k_with "call ref" => (k_here; (try refine (?_ : wpAny _ (PySem.Around.deeper _ _) _ _ _ _)); (with_reducible show wpAny _ _ (PySem.call (Value.ref 220) _ _) _ _ _); (try k_fold); k_dflt ((first | (refine' Ctr.use0 (c_word_at _ _ _ _ 5 (Str.ofString "PRINT") (by decide) (by decide +kernel) (by decide +kernel) (by decide) (by decide +kernel) (by decide +kernel) (by decide +kernel) (by decide +kernel) (by decide +kernel) (by decide +kernel) (by decide +kernel)) ?R194.k1 ?R194.k2 ?R194.k3 ?R194.k4 ?R194.k5 ?R194.k6 ?R194.k7 ?R194.k8 ?_) | (refine' Ctr.use0 (c_word_at _ _ _ _ 7 (Str.ofString "A") (by decide) (by decide +kernel) (by decide +kernel) (by decide) (by decide +kernel) (by decide +kernel) (by decide +kernel) (by decide +kernel) (by decide +kernel) (by decide +kernel) (by decide +kernel)) ?R194.k1 ?R194.k2 ?R194.k3 ?R194.k4 ?R194.k5 ?R194.k6 ?R194.k7 ?R194.k8 ?_) | (refine' Ctr.use0 (c_word_at _ _ _ _ 4 (Str.ofString "GOTO") (by decide) (by decide +kernel) (by decide +kernel) (by decide) (by decide +kernel) (by decide +kernel) (by decide +kernel) (by decide +kernel) (by decide +kernel) (by decide +kernel) (by decide +kernel)) ?R194.k1 ?R194.k2 ?R194.k3 ?R194.k4 ?R194.k5 ?R194.k6 ?R194.k7 ?R194.k8 ?_) | (refine' Ctr.use0 (c_word_at _ _ _ _ 1 (Str.ofString "A") (by decide) (by decide +kernel) (by decide +kernel) (by decide) (by decide +kernel) (by decide +kernel) (by decide +kernel) (by decide +kernel) (by decide +kernel) (by decide +kernel) (by decide +kernel)) ?R194.k1 ?R194.k2 ?R194.k3 ?R194.k4 ?R194.k5 ?R194.k6 ?R194.k7 ?R194.k8 ?_)); tb_start; intro v' nw' h' tk' F' N' q'; obtain ⟨P, L1, T1, te, t, t2, c, q1, q2, l1, l2, l3⟩ := q'; (first | (rw [kd_PRINT] at q2) | (rw [kd_GOTO] at q2) | (rw [kd_A] at q2)); subst q1 q2; (try dsimp only)))
  k_steps
  refine' hret _ _ _ _ ?rF ?rN ?rP
  case rF => k_asm
  case rN => exact News.cut3 (by with_reducible assumption)
  case rP =>
    first
      | (refine ⟨_, _, _, _, _, _, _, rfl, rfl, ?_, ?_, by first | with_reducible assumption | exact allLt_all (And.right (show (_ : Prop) ∧ AllLt _ news by with_reducible assumption)) | exact allLt_all (And.right (And.right (show (_ : Prop) ∧ (_ : Prop) ∧ AllLt _ news by with_reducible assumption))) | exact allLt_all (And.right (And.right (And.right (show (_ : Prop) ∧ (_ : Prop) ∧ (_ : Prop) ∧ AllLt _ news by with_reducible assumption)))) | exact allLt_all (And.right (And.right (And.right (And.right (show (_ : Prop) ∧ (_ : Prop) ∧ (_ : Prop) ∧ (_ : Prop) ∧ AllLt _ news by with_reducible assumption)))))⟩ <;> (show (_ : Nat) < _; omega))
      | (refine ⟨_, _, _, _, _, _, _, rfl, by rw [show Txt.slice (Txt.slice (Str.ofString "REM A  B") (some 3) none) (some 1) none = Str.ofString "A  B" by decide +kernel]; rfl, ?_, ?_, by first | with_reducible assumption | exact allLt_all (And.right (show (_ : Prop) ∧ AllLt _ news by with_reducible assumption)) | exact allLt_all (And.right (And.right (show (_ : Prop) ∧ (_ : Prop) ∧ AllLt _ news by with_reducible assumption))) | exact allLt_all (And.right (And.right (And.right (show (_ : Prop) ∧ (_ : Prop) ∧ (_ : Prop) ∧ AllLt _ news by with_reducible assumption)))) | exact allLt_all (And.right (And.right (And.right (And.right (show (_ : Prop) ∧ (_ : Prop) ∧ (_ : Prop) ∧ (_ : Prop) ∧ AllLt _ news by with_reducible assumption)))))⟩ <;> (show (_ : Nat) < _; omega))
      | (refine ⟨_, _, _, _, _, _, _, rfl, by rw [show Txt.find3 (Str.ofString "PRINT \"X\"") (Str.ofString "\"") (6 + 1) = 8 by decide +kernel]; rfl, ?_, ?_, by first | with_reducible assumption | exact allLt_all (And.right (show (_ : Prop) ∧ AllLt _ news by with_reducible assumption)) | exact allLt_all (And.right (And.right (show (_ : Prop) ∧ (_ : Prop) ∧ AllLt _ news by with_reducible assumption))) | exact allLt_all (And.right (And.right (And.right (show (_ : Prop) ∧ (_ : Prop) ∧ (_ : Prop) ∧ AllLt _ news by with_reducible assumption)))) | exact allLt_all (And.right (And.right (And.right (And.right (show (_ : Prop) ∧ (_ : Prop) ∧ (_ : Prop) ∧ (_ : Prop) ∧ AllLt _ news by with_reducible assumption)))))⟩ <;> (show (_ : Nat) < _; omega))

set_option maxHeartbeats 4000000 in
theorem c_tok7 (t t2 : Tok) : Ctr w mean mg mb 227 10 news [.str (Str.ofString "A=1") t, .int 2 t2] (fun v nw => WordIs (Str.ofString "number") (Str.ofString "1") 3 news v nw) NoExc := by
  intro dp un gd cn cs a ccd cl outer A₀ base h₀ L m s Q E B F X N T hk hd' hu hret hexc
  refine wpAny_call ?_
  k_dflt cell_enter
  refine (let ak := _; (?_ : wpAny _ ak _ _ _ _))
  w_top off
  k_with_none
  k_with "execs cons" => ((try k_fold); refine wpAny_execs_cons ?_; refine (let sk := _; (?_ : wpAny _ _ _ _ _ sk)))
  k_with "eval Call" => (k_here; (with_reducible show wpAny _ _ (eval (Expr.Call (Expr.Name _ _) _ [] _) _) _ _ _); k_dflt (refine Call_ ?_))
  k_with "exec Raise some none" => (k_here; (refine' raise_B ?_ ?R179.hh); (case hh => k_dflt rfl))
  k_with "call ref" => (k_here; (try refine (?_ : wpAny _ (PySem.Around.deeper _ _) _ _ _ _)); (with_reducible show wpAny _ _ (PySem.call (Value.ref 34) _ _) _ _ _); refine' c_basic ?R180.b1 ?R180.b2 ?R180.b3 ?R180.b4 ?R180.b5 ?R180.b6 ?R180.b7 ?R180.b8 ?R180.b9 ?_; (case b1 => k_asm); (case b2 => k_asm); (case b3 => k_asm); (case b4 => k_asm); (case b5 => k_asm); (case b6 => rfl); (case b7 => rfl); (case b8 => first | rfl | assumption); (case b9 => ktr_room); intro e' dx' oD' ta' h' tk' F' N' d1' d2' d3')
  k_with "RaiseB" => (refine' ⟨_, _, _, rfl, ?R181.r1, ?R181.r2, ?_⟩; (case r1 => exact (News.get (by assumption) (.head _))); (case r2 => exact (Frag.In.keeps (by assumption) (Fr.keep (by assumption))) _ _ (by k_dflt k_is)))
  k_with "leaving ref" => (k_here; first
  | (refine' leave_newB ?R182.k1 ?R182.k2 ?R182.k3 ?R182.k4 ?R182.k5 ?R182.k6 ?_; (case k1 => assumption); (case k2 => assumption); (case k3 => assumption); (case k4 => assumption); (case k5 => assumption); (case k6 => assumption); k_whole; intro h' R' U'; (try dsimp only at R' U' ⊢))
  | (refine' leave_onB ?R182.k1 ?R182.k2 ?R182.k3 ?R182.k4 ?_; (case k3 => assumption); (case k1 => assumption); (case k4 => assumption); (case k2 => assumption); k_whole; intro h' R' U'; (try dsimp only at R' U' ⊢)))
  k_with "ite" => (k_here; first | (refine' iteT ?R183.h ?_; (case h => decide +kernel)) | (refine' iteF ?R183.h ?_; (case h => decide +kernel)))
  k_with "call builtin:str.find" => (k_here; k_dflt (refine c_find4 ?_))
  k_with "subscriptTail Name Name str int" => (k_here; k_dflt (refine item_str (by decide +kernel) (by decide +kernel) (by decide +kernel) ?_); intro _)
  k_with "call ref" => (k_here; (try refine (?_ : wpAny _ (PySem.Around.deeper _ _) _ _ _ _)); (with_reducible show wpAny _ _ (PySem.call (Value.ref _) _ _) _ _ _); (try k_fold); refine wpAny_call ?_; k_dflt (refine' code_def ?R186.k1 ?R186.k2 ?R186.k3 ?R186.k4 ?R186.k5 ?R186.kA ?R186.kF ?R186.kK ?R186.k6 ?R186.k7 ?R186.k8 ?R186.k9 ?R186.kB ?_ ?R186.c2 ?R186.c3 ?R186.c4 ?R186.c5; (case kA => exact rfl); (case kF => exact rfl); (case kK => first | exact rfl | assumption); (case k1 => k_asm); (case k2 => k_asm); (case k3 => k_asm); (case k4 => k_asm); (case k5 => k_asm); (case k6 => k_is); (case k7 => k_is); (case k8 => ktr_room); (case k9 => exact BindsTo.of_eq rfl); (case c5 => decide); (case kB => exact locs rfl); (case c2 => exact rfl); (case c3 => exact rfl); (case c4 => exact rfl); k_whole; intro g' L' h' FG' F' N' B' X' T'; (try dsimp only); (try k_lift B'); (try k_fold)))
  k_with "call ref" => (k_here; (try refine (?_ : wpAny _ (PySem.Around.deeper _ _) _ _ _ _)); (with_reducible show wpAny _ _ (PySem.call (Value.ref 138) _ _) _ _ _); (try k_fold); k_dflt (refine' Ctr.use0 (c_is_letter _ _) ?R187.k1 ?R187.k2 ?R187.k3 ?R187.k4 ?R187.k5 ?R187.k6 ?R187.k7 ?R187.k8 ?_; tb_start; intro v' nw' h' tk' F' N' q'; obtain ⟨q1, q2⟩ := q'; (first | (replace q1 := q1.trans (congrArg Value.bool (show isLetS _ = true by decide +kernel))) | (replace q1 := q1.trans (congrArg Value.bool (show isLetS _ = false by decide +kernel)))); subst q1 q2; (try dsimp only)))
  k_with "call ref" => (k_here; (try refine (?_ : wpAny _ (PySem.Around.deeper _ _) _ _ _ _)); (with_reducible show wpAny _ _ (PySem.call (Value.ref 145) _ _) _ _ _); (try k_fold); k_dflt (refine' Ctr.use0 (c_is_figure _ _) ?R188.k1 ?R188.k2 ?R188.k3 ?R188.k4 ?R188.k5 ?R188.k6 ?R188.k7 ?R188.k8 ?_; tb_start; intro v' nw' h' tk' F' N' q'; obtain ⟨q1, q2⟩ := q'; (first | (replace q1 := q1.trans (congrArg Value.bool (show isFigS _ = true by decide +kernel))) | (replace q1 := q1.trans (congrArg Value.bool (show isFigS _ = false by decide +kernel)))); subst q1 q2; (try dsimp only)))
  k_with "call ref" => (k_here; (try refine (?_ : wpAny _ (PySem.Around.deeper _ _) _ _ _ _)); (with_reducible show wpAny _ _ (PySem.call (Value.ref 164) _ _) _ _ _); (try k_fold); k_dflt (refine' Ctr.use0 (c_skipped _ _ _ _ ?R189.p1 ?R189.p2) ?R189.k1 ?R189.k2 ?R189.k3 ?R189.k4 ?R189.k5 ?R189.k6 ?R189.k7 ?R189.k8 ?_; (case p1 => decide); (case p2 => decide +kernel); tb_start; intro v' nw' h' tk' F' N' q'; obtain ⟨⟨n', tq, q1, e', g', l'⟩, q2⟩ := q'; clear g' l'; (first | (replace e' : n' = 0 := e'.trans (by decide +kernel)) | (replace e' : n' = 1 := e'.trans (by decide +kernel)) | (replace e' : n' = 2 := e'.trans (by decide +kernel)) | (replace e' : n' = 3 := e'.trans (by decide +kernel)) | (replace e' : n' = 4 := e'.trans (by decide +kernel)) | (replace e' : n' = 5 := e'.trans (by decide +kernel)) | (replace e' : n' = 6 := e'.trans (by decide +kernel)) | (replace e' : n' = 7 := e'.trans (by decide +kernel)) | (replace e' : n' = 8 := e'.trans (by decide +kernel)) | (replace e' : n' = 9 := e'.trans (by decide +kernel)) | (replace e' : n' = 10 := e'.trans (by decide +kernel)) | (replace e' : n' = 11 := e'.trans (by decide +kernel)) | (replace e' : n' = 12 := e'.trans (by decide +kernel))); subst e'; subst q1 q2; (try dsimp only)))
  k_with "call ref" => (k_here; (try refine (?_ : wpAny _ (PySem.Around.deeper _ _) _ _ _ _)); (with_reducible show wpAny _ _ (PySem.call (Value.ref 157) _ _) _ _ _); (try k_fold); k_dflt (refine' Ctr.use0 (c_figures_end _ _ _ _ ?R190.p1 ?R190.p2) ?R190.k1 ?R190.k2 ?R190.k3 ?R190.k4 ?R190.k5 ?R190.k6 ?R190.k7 ?R190.k8 ?_; (case p1 => decide); (case p2 => decide +kernel); tb_start; intro v' nw' h' tk' F' N' q'; obtain ⟨⟨n', tq, q1, e', g', l'⟩, q2⟩ := q'; clear g' l'; (first | (replace e' : n' = 0 := e'.trans (by decide +kernel)) | (replace e' : n' = 1 := e'.trans (by decide +kernel)) | (replace e' : n' = 2 := e'.trans (by decide +kernel)) | (replace e' : n' = 3 := e'.trans (by decide +kernel)) | (replace e' : n' = 4 := e'.trans (by decide +kernel)) | (replace e' : n' = 5 := e'.trans (by decide +kernel)) | (replace e' : n' = 6 := e'.trans (by decide +kernel)) | (replace e' : n' = 7 := e'.trans (by decide +kernel)) | (replace e' : n' = 8 := e'.trans (by decide +kernel)) | (replace e' : n' = 9 := e'.trans (by decide +kernel)) | (replace e' : n' = 10 := e'.trans (by decide +kernel)) | (replace e' : n' = 11 := e'.trans (by decide +kernel)) | (replace e' : n' = 12 := e'.trans (by decide +kernel))); subst e'; subst q1 q2; (try dsimp only)))
  k_with "call ref" => (k_here; (try refine (?_ : wpAny _ (PySem.Around.deeper _ _) _ _ _ _)); (with_reducible show wpAny _ _ (PySem.call (Value.ref 150) _ _) _ _ _); (try k_fold); k_dflt (refine' Ctr.use0 (c_capital _ _ ?R191.p1 ?R191.p2 ?R191.p3) ?R191.k1 ?R191.k2 ?R191.k3 ?R191.k4 ?R191.k5 ?R191.k6 ?R191.k7 ?R191.k8 ?_; (case p1 => decide +kernel); (case p2 => decide +kernel); (case p3 => decide +kernel); tb_start; intro v' nw' h' tk' F' N' q'; obtain ⟨⟨tq, q1⟩, q2⟩ := q'; (first | (replace q1 := q1.trans (congrArg (Value.str · tq) (show capR _ = Str.ofString "PRINT" by decide +kernel))) | (replace q1 := q1.trans (congrArg (Value.str · tq) (show capR _ = Str.ofString "GOTO" by decide +kernel))) | (replace q1 := q1.trans (congrArg (Value.str · tq) (show capR _ = Str.ofString "REM" by decide +kernel))) | (replace q1 := q1.trans (congrArg (Value.str · tq) (show capR _ = Str.ofString "A" by decide +kernel))) | (replace q1 := q1.trans (congrArg (Value.str · tq) (show capR _ = Str.ofString "DATA" by decide +kernel))) | (replace q1 := q1.trans (congrArg (Value.str · tq) (show capR _ = Str.ofString "10" by decide +kernel))) | (replace q1 := q1.trans (congrArg (Value.str · tq) (show capR _ = Str.ofString "1" by decide +kernel)))); (try dsimp only at q1); subst q1 q2; (try dsimp only)))
  k_with "call ref" => (k_here; (try refine (?_ : wpAny _ (PySem.Around.deeper _ _) _ _ _ _)); (with_reducible show wpAny _ _ (PySem.call (Value.ref 206) _ _) _ _ _); (try k_fold); k_dflt (refine' Ctr.use0 (c_data_end _ _) ?R192.k1 ?R192.k2 ?R192.k3 ?R192.k4 ?R192.k5 ?R192.k6 ?R192.k7 ?R192.k8 ?_; tb_start; intro v' nw' h' tk' F' N' q'; obtain ⟨tq, q1, q2⟩ := q'; subst q1 q2; (try dsimp only)))
  k_with "call ref" => (k_here; (try refine (?_ : wpAny _ (PySem.Around.deeper _ _) _ _ _ _)); (with_reducible show wpAny _ _ (PySem.call (Value.ref 185) _ _) _ _ _); (try k_fold); k_dflt (refine' Ctr.use0 (c_name_end _ _ _ _ ?R193.p1 ?R193.p2) ?R193.k1 ?R193.k2 ?R193.k3 ?R193.k4 ?R193.k5 ?R193.k6 ?R193.k7 ?R193.k8 ?_; (case p1 => decide); (case p2 => decide +kernel); tb_start; intro v' nw' h' tk' F' N' q'; obtain ⟨n', tq, q1, e', q2⟩ := q'; (first | (replace e' : n' = 3 := e'.trans (by decide +kernel)) | (replace e' : n' = 4 := e'.trans (by decide +kernel))); subst e'; subst q1 q2; (try dsimp only)))
  k_with "call ref" => (k_here; (try refine (?_ : wpAny _ (PySem.Around.deeper _ _) _ _ _ _)); (with_reducible show wpAny _ _ (PySem.call (Value.ref 220) _ _) _ _ _); (try k_fold); k_dflt ((first | (refine' Ctr.use0 (c_word_at _ _ _ _ 5 (Str.ofString "PRINT") (by decide) (by decide +kernel) (by decide +kernel) (by decide) (by decide +kernel) (by decide +kernel) (by decide +kernel) (by decide +kernel) (by decide +kernel) (by decide +kernel) (by decide +kernel)) ?R194.k1 ?R194.k2 ?R194.k3 ?R194.k4 ?R194.k5 ?R194.k6 ?R194.k7 ?R194.k8 ?_) | (refine' Ctr.use0 (c_word_at _ _ _ _ 7 (Str.ofString "A") (by decide) (by decide +kernel) (by decide +kernel) (by decide) (by decide +kernel) (by decide +kernel) (by decide +kernel) (by decide +kernel) (by decide +kernel) (by decide +kernel) (by decide +kernel)) ?R194.k1 ?R194.k2 ?R194.k3 ?R194.k4 ?R194.k5 ?R194.k6 ?R194.k7 ?R194.k8 ?_) | (refine' Ctr.use0 (c_word_at _ _ _ _ 4 (Str.ofString "GOTO") (by decide) (by decide +kernel) (by decide +kernel) (by decide) (by decide +kernel) (by decide +kernel) (by decide +kernel) (by decide +kernel) (by decide +kernel) (by decide +kernel) (by decide +kernel)) ?R194.k1 ?R194.k2 ?R194.k3 ?R194.k4 ?R194.k5 ?R194.k6 ?R194.k7 ?R194.k8 ?_) | (refine' Ctr.use0 (c_word_at _ _ _ _ 1 (Str.ofString "A") (by decide) (by decide +kernel) (by decide +kernel) (by decide) (by decide +kernel) (by decide +kernel) (by decide +kernel) (by decide +kernel) (by decide +kernel) (by decide +kernel) (by decide +kernel)) ?R194.k1 ?R194.k2 ?R194.k3 ?R194.k4 ?R194.k5 ?R194.k6 ?R194.k7 ?R194.k8 ?_)); tb_start; intro v' nw' h' tk' F' N' q'; obtain ⟨P, L1, T1, te, t, t2, c, q1, q2, l1, l2, l3⟩ := q'; (first | (rw [kd_PRINT] at q2) | (rw [kd_GOTO] at q2) | (rw [kd_A] at q2)); subst q1 q2; (try dsimp only)))
  k_steps
  refine' hret _ _ _ _ ?rF ?rN ?rP
  case rF => k_asm
  case rN => exact News.cut4 (News.cut3 (by with_reducible assumption))
  case rP =>
    first
      | (refine ⟨_, _, _, _, _, _, _, rfl, rfl, ?_, ?_, by first | with_reducible assumption | exact allLt_all (And.right (show (_ : Prop) ∧ AllLt _ news by with_reducible assumption)) | exact allLt_all (And.right (And.right (show (_ : Prop) ∧ (_ : Prop) ∧ AllLt _ news by with_reducible assumption))) | exact allLt_all (And.right (And.right (And.right (show (_ : Prop) ∧ (_ : Prop) ∧ (_ : Prop) ∧ AllLt _ news by with_reducible assumption)))) | exact allLt_all (And.right (And.right (And.right (And.right (show (_ : Prop) ∧ (_ : Prop) ∧ (_ : Prop) ∧ (_ : Prop) ∧ AllLt _ news by with_reducible assumption)))))⟩ <;> (show (_ : Nat) < _; omega))
      | (refine ⟨_, _, _, _, _, _, _, rfl, by rw [show Txt.slice (Txt.slice (Str.ofString "REM A  B") (some 3) none) (some 1) none = Str.ofString "A  B" by decide +kernel]; rfl, ?_, ?_, by first | with_reducible assumption | exact allLt_all (And.right (show (_ : Prop) ∧ AllLt _ news by with_reducible assumption)) | exact allLt_all (And.right (And.right (show (_ : Prop) ∧ (_ : Prop) ∧ AllLt _ news by with_reducible assumption))) | exact allLt_all (And.right (And.right (And.right (show (_ : Prop) ∧ (_ : Prop) ∧ (_ : Prop) ∧ AllLt _ news by with_reducible assumption)))) | exact allLt_all (And.right (And.right (And.right (And.right (show (_ : Prop) ∧ (_ : Prop) ∧ (_ : Prop) ∧ (_ : Prop) ∧ AllLt _ news by with_reducible assumption)))))⟩ <;> (show (_ : Nat) < _; omega))
      | (refine ⟨_, _, _, _, _, _, _, rfl, by rw [show Txt.find3 (Str.ofString "PRINT \"X\"") (Str.ofString "\"") (6 + 1) = 8 by decide +kernel]; rfl, ?_, ?_, by first | with_reducible assumption | exact allLt_all (And.right (show (_ : Prop) ∧ AllLt _ news by with_reducible assumption)) | exact allLt_all (And.right (And.right (show (_ : Prop) ∧ (_ : Prop) ∧ AllLt _ news by with_reducible assumption))) | exact allLt_all (And.right (And.right (And.right (show (_ : Prop) ∧ (_ : Prop) ∧ (_ : Prop) ∧ AllLt _ news by with_reducible assumption)))) | exact allLt_all (And.right (And.right (And.right (And.right (show (_ : Prop) ∧ (_ : Prop) ∧ (_ : Prop) ∧ (_ : Prop) ∧ AllLt _ news by with_reducible assumption)))))⟩ <;> (show (_ : Nat) < _; omega))

set_option maxHeartbeats 4000000 in
theorem c_tok8 (t t2 : Tok) : Ctr w mean mg mb 227 10 news [.str (Str.ofString "PRINT \"X\"") t, .int 0 t2] (fun v nw => WordIs (Str.ofString "word") (Str.ofString "PRINT") 5 news v nw) NoExc := by
  intro dp un gd cn cs a ccd cl outer A₀ base h₀ L m s Q E B F X N T hk hd' hu hret hexc
  refine wpAny_call ?_
  k_dflt cell_enter
  refine (let ak := _; (?_ : wpAny _ ak _ _ _ _))
  w_top off
  k_with_none
  k_with "execs cons" => ((try k_fold); refine wpAny_execs_cons ?_; refine (let sk := _; (?_ : wpAny _ _ _ _ _ sk)))
  k_with "eval Call" => (k_here; (with_reducible show wpAny _ _ (eval (Expr.Call (Expr.Name _ _) _ [] _) _) _ _ _); k_dflt (refine Call_ ?_))
  k_with "exec Raise some none" => (k_here; (refine' raise_B ?_ ?R179.hh); (case hh => k_dflt rfl))
  k_with "call ref" => (k_here; (try refine (?_ : wpAny _ (PySem.Around.deeper _ _) _ _ _ _)); (with_reducible show wpAny _ _ (PySem.call (Value.ref 34) _ _) _ _ _); refine' c_basic ?R180.b1 ?R180.b2 ?R180.b3 ?R180.b4 ?R180.b5 ?R180.b6 ?R180.b7 ?R180.b8 ?R180.b9 ?_; (case b1 => k_asm); (case b2 => k_asm); (case b3 => k_asm); (case b4 => k_asm); (case b5 => k_asm); (case b6 => rfl); (case b7 => rfl); (case b8 => first | rfl | assumption); (case b9 => ktr_room); intro e' dx' oD' ta' h' tk' F' N' d1' d2' d3')
  k_with "RaiseB" => (refine' ⟨_, _, _, rfl, ?R181.r1, ?R181.r2, ?_⟩; (case r1 => exact (News.get (by assumption) (.head _))); (case r2 => exact (Frag.In.keeps (by assumption) (Fr.keep (by assumption))) _ _ (by k_dflt k_is)))
  k_with "leaving ref" => (k_here; first
  | (refine' leave_newB ?R182.k1 ?R182.k2 ?R182.k3 ?R182.k4 ?R182.k5 ?R182.k6 ?_; (case k1 => assumption); (case k2 => assumption); (case k3 => assumption); (case k4 => assumption); (case k5 => assumption); (case k6 => assumption); k_whole; intro h' R' U'; (try dsimp only at R' U' ⊢))
  | (refine' leave_onB ?R182.k1 ?R182.k2 ?R182.k3 ?R182.k4 ?_; (case k3 => assumption); (case k1 => assumption); (case k4 => assumption); (case k2 => assumption); k_whole; intro h' R' U'; (try dsimp only at R' U' ⊢)))
  k_with "ite" => (k_here; first | (refine' iteT ?R183.h ?_; (case h => decide +kernel)) | (refine' iteF ?R183.h ?_; (case h => decide +kernel)))
  k_with "call builtin:str.find" => (k_here; k_dflt (refine c_find4 ?_))
  k_with "subscriptTail Name Name str int" => (k_here; k_dflt (refine item_str (by decide +kernel) (by decide +kernel) (by decide +kernel) ?_); intro _)
  k_with "call ref" => (k_here; (try refine (?_ : wpAny _ (PySem.Around.deeper _ _) _ _ _ _)); (with_reducible show wpAny _ _ (PySem.call (Value.ref _) _ _) _ _ _); (try k_fold); refine wpAny_call ?_; k_dflt (refine' code_def ?R186.k1 ?R186.k2 ?R186.k3 ?R186.k4 ?R186.k5 ?R186.kA ?R186.kF ?R186.kK ?R186.k6 ?R186.k7 ?R186.k8 ?R186.k9 ?R186.kB ?_ ?R186.c2 ?R186.c3 ?R186.c4 ?R186.c5; (case kA => exact rfl); (case kF => exact rfl); (case kK => first | exact rfl | assumption); (case k1 => k_asm); (case k2 => k_asm); (case k3 => k_asm); (case k4 => k_asm); (case k5 => k_asm); (case k6 => k_is); (case k7 => k_is); (case k8 => ktr_room); (case k9 => exact BindsTo.of_eq rfl); (case c5 => decide); (case kB => exact locs rfl); (case c2 => exact rfl); (case c3 => exact rfl); (case c4 => exact rfl); k_whole; intro g' L' h' FG' F' N' B' X' T'; (try dsimp only); (try k_lift B'); (try k_fold)))
  k_with "call ref" => (k_here; (try refine (?_ : wpAny _ (PySem.Around.deeper _ _) _ _ _ _)); (with_reducible show wpAny _ _ (PySem.call (Value.ref 138) _ _) _ _ _); (try k_fold); k_dflt (refine' Ctr.use0 (c_is_letter _ _) ?R187.k1 ?R187.k2 ?R187.k3 ?R187.k4 ?R187.k5 ?R187.k6 ?R187.k7 ?R187.k8 ?_; tb_start; intro v' nw' h' tk' F' N' q'; obtain ⟨q1, q2⟩ := q'; (first | (replace q1 := q1.trans (congrArg Value.bool (show isLetS _ = true by decide +kernel))) | (replace q1 := q1.trans (congrArg Value.bool (show isLetS _ = false by decide +kernel)))); subst q1 q2; (try dsimp only)))
  k_with "call ref" => (k_here; (try refine (?_ : wpAny _ (PySem.Around.deeper _ _) _ _ _ _)); (with_reducible show wpAny _ _ (PySem.call (Value.ref 145) _ _) _ _ _); (try k_fold); k_dflt (refine' Ctr.use0 (c_is_figure _ _) ?R188.k1 ?R188.k2 ?R188.k3 ?R188.k4 ?R188.k5 ?R188.k6 ?R188.k7 ?R188.k8 ?_; tb_start; intro v' nw' h' tk' F' N' q'; obtain ⟨q1, q2⟩ := q'; (first | (replace q1 := q1.trans (congrArg Value.bool (show isFigS _ = true by decide +kernel))) | (replace q1 := q1.trans (congrArg Value.bool (show isFigS _ = false by decide +kernel)))); subst q1 q2; (try dsimp only)))
  k_with "call ref" => (k_here; (try refine (?_ : wpAny _ (PySem.Around.deeper _ _) _ _ _ _)); (with_reducible show wpAny _ _ (PySem.call (Value.ref 164) _ _) _ _ _); (try k_fold); k_dflt (refine' Ctr.use0 (c_skipped _ _ _ _ ?R189.p1 ?R189.p2) ?R189.k1 ?R189.k2 ?R189.k3 ?R189.k4 ?R189.k5 ?R189.k6 ?R189.k7 ?R189.k8 ?_; (case p1 => decide); (case p2 => decide +kernel); tb_start; intro v' nw' h' tk' F' N' q'; obtain ⟨⟨n', tq, q1, e', g', l'⟩, q2⟩ := q'; clear g' l'; (first | (replace e' : n' = 0 := e'.trans (by decide +kernel)) | (replace e' : n' = 1 := e'.trans (by decide +kernel)) | (replace e' : n' = 2 := e'.trans (by decide +kernel)) | (replace e' : n' = 3 := e'.trans (by decide +kernel)) | (replace e' : n' = 4 := e'.trans (by decide +kernel)) | (replace e' : n' = 5 := e'.trans (by decide +kernel)) | (replace e' : n' = 6 := e'.trans (by decide +kernel)) | (replace e' : n' = 7 := e'.trans (by decide +kernel)) | (replace e' : n' = 8 := e'.trans (by decide +kernel)) | (replace e' : n' = 9 := e'.trans (by decide +kernel)) | (replace e' : n' = 10 := e'.trans (by decide +kernel)) | (replace e' : n' = 11 := e'.trans (by decide +kernel)) | (replace e' : n' = 12 := e'.trans (by decide +kernel))); subst e'; subst q1 q2; (try dsimp only)))
  k_with "call ref" => (k_here; (try refine (?_ : wpAny _ (PySem.Around.deeper _ _) _ _ _ _)); (with_reducible show wpAny _ _ (PySem.call (Value.ref 157) _ _) _ _ _); (try k_fold); k_dflt (refine' Ctr.use0 (c_figures_end _ _ _ _ ?R190.p1 ?R190.p2) ?R190.k1 ?R190.k2 ?R190.k3 ?R190.k4 ?R190.k5 ?R190.k6 ?R190.k7 ?R190.k8 ?_; (case p1 => decide); (case p2 => decide +kernel); tb_start; intro v' nw' h' tk' F' N' q'; obtain ⟨⟨n', tq, q1, e', g', l'⟩, q2⟩ := q'; clear g' l'; (first | (replace e' : n' = 0 := e'.trans (by decide +kernel)) | (replace e' : n' = 1 := e'.trans (by decide +kernel)) | (replace e' : n' = 2 := e'.trans (by decide +kernel)) | (replace e' : n' = 3 := e'.trans (by decide +kernel)) | (replace e' : n' = 4 := e'.trans (by decide +kernel)) | (replace e' : n' = 5 := e'.trans (by decide +kernel)) | (replace e' : n' = 6 := e'.trans (by decide +kernel)) | (replace e' : n' = 7 := e'.trans (by decide +kernel)) | (replace e' : n' = 8 := e'.trans (by decide +kernel)) | (replace e' : n' = 9 := e'.trans (by decide +kernel)) | (replace e' : n' = 10 := e'.trans (by decide +kernel)) | (replace e' : n' = 11 := e'.trans (by decide +kernel)) | (replace e' : n' = 12 := e'.trans (by decide +kernel))); subst e'; subst q1 q2; (try dsimp only)))
  k_with "call ref" => (k_here; (try refine (?_ : wpAny _ (PySem.Around.deeper _ _) _ _ _ _)); (with_reducible show wpAny _ _ (PySem.call (Value.ref 150) _ _) _ _ _); (try k_fold); k_dflt (refine' Ctr.use0 (c_capital _ _ ?R191.p1 ?R191.p2 ?R191.p3) ?R191.k1 ?R191.k2 ?R191.k3 ?R191.k4 ?R191.k5 ?R191.k6 ?R191.k7 ?R191.k8 ?_; (case p1 => decide +kernel); (case p2 => decide +kernel); (case p3 => decide +kernel); tb_start; intro v' nw' h' tk' F' N' q'; obtain ⟨⟨tq, q1⟩, q2⟩ := q'; (first | (replace q1 := q1.trans (congrArg (Value.str · tq) (show capR _ = Str.ofString "PRINT" by decide +kernel))) | (replace q1 := q1.trans (congrArg (Value.str · tq) (show capR _ = Str.ofString "GOTO" by decide +kernel))) | (replace q1 := q1.trans (congrArg (Value.str · tq) (show capR _ = Str.ofString "REM" by decide +kernel))) | (replace q1 := q1.trans (congrArg (Value.str · tq) (show capR _ = Str.ofString "A" by decide +kernel))) | (replace q1 := q1.trans (congrArg (Value.str · tq) (show capR _ = Str.ofString "DATA" by decide +kernel))) | (replace q1 := q1.trans (congrArg (Value.str · tq) (show capR _ = Str.ofString "10" by decide +kernel))) | (replace q1 := q1.trans (congrArg (Value.str · tq) (show capR _ = Str.ofString "1" by decide +kernel)))); (try dsimp only at q1); subst q1 q2; (try dsimp only)))
  k_with "call ref" => (k_here; (try refine (?_ : wpAny _ (PySem.Around.deeper _ _) _ _ _ _)); (with_reducible show wpAny _ _ (PySem.call (Value.ref 206) _ _) _ _ _); (try k_fold); k_dflt (refine' Ctr.use0 (c_data_end _ _) ?R192.k1 ?R192.k2 ?R192.k3 ?R192.k4 ?R192.k5 ?R192.k6 ?R192.k7 ?R192.k8 ?_; tb_start; intro v' nw' h' tk' F' N' q'; obtain ⟨tq, q1, q2⟩ := q'; subst q1 q2; (try dsimp only)))
  k_with "call ref" => (k_here; (try refine (?_ : wpAny _ (PySem.Around.deeper _ _) _ _ _ _)); (with_reducible show wpAny _ _ (PySem.call (Value.ref 185) _ _) _ _ _); (try k_fold); k_dflt (refine' Ctr.use0 (c_name_end _ _ _ _ ?R193.p1 ?R193.p2) ?R193.k1 ?R193.k2 ?R193.k3 ?R193.k4 ?R193.k5 ?R193.k6 ?R193.k7 ?R193.k8 ?_; (case p1 => decide); (case p2 => decide +kernel); tb_start; intro v' nw' h' tk' F' N' q'; obtain ⟨n', tq, q1, e', q2⟩ := q'; (first | (replace e' : n' = 3 := e'.trans (by decide +kernel)) | (replace e' : n' = 4 := e'.trans (by decide +kernel))); subst e'; subst q1 q2; (try dsimp only)))
  k_with "call ref" => (k_here; (try refine (?_ : wpAny _ (PySem.Around.deeper _ _) _ _ _ _)); (with_reducible show wpAny _ _ (PySem.call (Value.ref 220) _ _) _ _ _); (try k_fold); k_dflt ((first | (refine' Ctr.use0 (c_word_at _ _ _ _ 5 (Str.ofString "PRINT") (by decide) (by decide +kernel) (by decide +kernel) (by decide) (by decide +kernel) (by decide +kernel) (by decide +kernel) (by decide +kernel) (by decide +kernel) (by decide +kernel) (by decide +kernel)) ?R194.k1 ?R194.k2 ?R194.k3 ?R194.k4 ?R194.k5 ?R194.k6 ?R194.k7 ?R194.k8 ?_) | (refine' Ctr.use0 (c_word_at _ _ _ _ 7 (Str.ofString "A") (by decide) (by decide +kernel) (by decide +kernel) (by decide) (by decide +kernel) (by decide +kernel) (by decide +kernel) (by decide +kernel) (by decide +kernel) (by decide +kernel) (by decide +kernel)) ?R194.k1 ?R194.k2 ?R194.k3 ?R194.k4 ?R194.k5 ?R194.k6 ?R194.k7 ?R194.k8 ?_) | (refine' Ctr.use0 (c_word_at _ _ _ _ 4 (Str.ofString "GOTO") (by decide) (by decide +kernel) (by decide +kernel) (by decide) (by decide +kernel) (by decide +kernel) (by decide +kernel) (by decide +kernel) (by decide +kernel) (by decide +kernel) (by decide +kernel)) ?R194.k1 ?R194.k2 ?R194.k3 ?R194.k4 ?R194.k5 ?R194.k6 ?R194.k7 ?R194.k8 ?_) | (refine' Ctr.use0 (c_word_at _ _ _ _ 1 (Str.ofString "A") (by decide) (by decide +kernel) (by decide +kernel) (by decide) (by decide +kernel) (by decide +kernel) (by decide +kernel) (by decide +kernel) (by decide +kernel) (by decide +kernel) (by decide +kernel)) ?R194.k1 ?R194.k2 ?R194.k3 ?R194.k4 ?R194.k5 ?R194.k6 ?R194.k7 ?R194.k8 ?_)); tb_start; intro v' nw' h' tk' F' N' q'; obtain ⟨P, L1, T1, te, t, t2, c, q1, q2, l1, l2, l3⟩ := q'; (first | (rw [kd_PRINT] at q2) | (rw [kd_GOTO] at q2) | (rw [kd_A] at q2)); subst q1 q2; (try dsimp only)))
  k_steps
  refine' hret _ _ _ _ ?rF ?rN ?rP
  case rF => k_asm
  case rN => k_asm
  case rP =>
    first
      | (refine ⟨_, _, _, _, _, _, _, rfl, rfl, ?_, ?_, by first | with_reducible assumption | exact allLt_all (And.right (show (_ : Prop) ∧ AllLt _ news by with_reducible assumption)) | exact allLt_all (And.right (And.right (show (_ : Prop) ∧ (_ : Prop) ∧ AllLt _ news by with_reducible assumption))) | exact allLt_all (And.right (And.right (And.right (show (_ : Prop) ∧ (_ : Prop) ∧ (_ : Prop) ∧ AllLt _ news by with_reducible assumption)))) | exact allLt_all (And.right (And.right (And.right (And.right (show (_ : Prop) ∧ (_ : Prop) ∧ (_ : Prop) ∧ (_ : Prop) ∧ AllLt _ news by with_reducible assumption)))))⟩ <;> (show (_ : Nat) < _; omega))
      | (refine ⟨_, _, _, _, _, _, _, rfl, by rw [show Txt.slice (Txt.slice (Str.ofString "REM A  B") (some 3) none) (some 1) none = Str.ofString "A  B" by decide +kernel]; rfl, ?_, ?_, by first | with_reducible assumption | exact allLt_all (And.right (show (_ : Prop) ∧ AllLt _ news by with_reducible assumption)) | exact allLt_all (And.right (And.right (show (_ : Prop) ∧ (_ : Prop) ∧ AllLt _ news by with_reducible assumption))) | exact allLt_all (And.right (And.right (And.right (show (_ : Prop) ∧ (_ : Prop) ∧ (_ : Prop) ∧ AllLt _ news by with_reducible assumption)))) | exact allLt_all (And.right (And.right (And.right (And.right (show (_ : Prop) ∧ (_ : Prop) ∧ (_ : Prop) ∧ (_ : Prop) ∧ AllLt _ news by with_reducible assumption)))))⟩ <;> (show (_ : Nat) < _; omega))
      | (refine ⟨_, _, _, _, _, _, _, rfl, by rw [show Txt.find3 (Str.ofString "PRINT \"X\"") (Str.ofString "\"") (6 + 1) = 8 by decide +kernel]; rfl, ?_, ?_, by first | with_reducible assumption | exact allLt_all (And.right (show (_ : Prop) ∧ AllLt _ news by with_reducible assumption)) | exact allLt_all (And.right (And.right (show (_ : Prop) ∧ (_ : Prop) ∧ AllLt _ news by with_reducible assumption))) | exact allLt_all (And.right (And.right (And.right (show (_ : Prop) ∧ (_ : Prop) ∧ (_ : Prop) ∧ AllLt _ news by with_reducible assumption)))) | exact allLt_all (And.right (And.right (And.right (And.right (show (_ : Prop) ∧ (_ : Prop) ∧ (_ : Prop) ∧ (_ : Prop) ∧ AllLt _ news by with_reducible assumption)))))⟩ <;> (show (_ : Nat) < _; omega))

set_option maxHeartbeats 4000000 in
theorem c_tok9 (t t2 : Tok) : Ctr w mean mg mb 227 10 news [.str (Str.ofString "PRINT \"X\"") t, .int 6 t2] (fun v nw => WordIs (Str.ofString "text") (Str.ofString "X") 9 news v nw) NoExc := by
  intro dp un gd cn cs a ccd cl outer A₀ base h₀ L m s Q E B F X N T hk hd' hu hret hexc
  refine wpAny_call ?_
  k_dflt cell_enter
  refine (let ak := _; (?_ : wpAny _ ak _ _ _ _))
  w_top off
  k_with_none
  k_with "execs cons" => ((try k_fold); refine wpAny_execs_cons ?_; refine (let sk := _; (?_ : wpAny _ _ _ _ _ sk)))
  k_with "eval Call" => (k_here; (with_reducible show wpAny _ _ (eval (Expr.Call (Expr.Name _ _) _ [] _) _) _ _ _); k_dflt (refine Call_ ?_))
  k_with "exec Raise some none" => (k_here; (refine' raise_B ?_ ?R179.hh); (case hh => k_dflt rfl))
  k_with "call ref" => (k_here; (try refine (?_ : wpAny _ (PySem.Around.deeper _ _) _ _ _ _)); (with_reducible show wpAny _ _ (PySem.call (Value.ref 34) _ _) _ _ _); refine' c_basic ?R180.b1 ?R180.b2 ?R180.b3 ?R180.b4 ?R180.b5 ?R180.b6 ?R180.b7 ?R180.b8 ?R180.b9 ?_; (case b1 => k_asm); (case b2 => k_asm); (case b3 => k_asm); (case b4 => k_asm); (case b5 => k_asm); (case b6 => rfl); (case b7 => rfl); (case b8 => first | rfl | assumption); (case b9 => ktr_room); intro e' dx' oD' ta' h' tk' F' N' d1' d2' d3')
  k_with "RaiseB" => (refine' ⟨_, _, _, rfl, ?R181.r1, ?R181.r2, ?_⟩; (case r1 => exact (News.get (by assumption) (.head _))); (case r2 => exact (Frag.In.keeps (by assumption) (Fr.keep (by assumption))) _ _ (by k_dflt k_is)))
  k_with "leaving ref" => (k_here; first
  | (refine' leave_newB ?R182.k1 ?R182.k2 ?R182.k3 ?R182.k4 ?R182.k5 ?R182.k6 ?_; (case k1 => assumption); (case k2 => assumption); (case k3 => assumption); (case k4 => assumption); (case k5 => assumption); (case k6 => assumption); k_whole; intro h' R' U'; (try dsimp only at R' U' ⊢))
  | (refine' leave_onB ?R182.k1 ?R182.k2 ?R182.k3 ?R182.k4 ?_; (case k3 => assumption); (case k1 => assumption); (case k4 => assumption); (case k2 => assumption); k_whole; intro h' R' U'; (try dsimp only at R' U' ⊢)))
  k_with "ite" => (k_here; first | (refine' iteT ?R183.h ?_; (case h => decide +kernel)) | (refine' iteF ?R183.h ?_; (case h => decide +kernel)))
  k_with "call builtin:str.find" => (k_here; k_dflt (refine c_find4 ?_))
  k_with "subscriptTail Name Name str int" => (k_here; k_dflt (refine item_str (by decide +kernel) (by decide +kernel) (by decide +kernel) ?_); intro _)
  k_with "call ref" => (k_here; (try refine (?_ : wpAny _ (PySem.Around.deeper _ _) _ _ _ _)); (with_reducible show wpAny _ _ (PySem.call (Value.ref _) _ _) _ _ _); (try k_fold); refine wpAny_call ?_; k_dflt (refine' code_def ?R186.k1 ?R186.k2 ?R186.k3 ?R186.k4 ?R186.k5 ?R186.kA ?R186.kF ?R186.kK ?R186.k6 ?R186.k7 ?R186.k8 ?R186.k9 ?R186.kB ?_ ?R186.c2 ?R186.c3 ?R186.c4 ?R186.c5; (case kA => exact rfl); (case kF => exact rfl); (case kK => first | exact rfl | assumption); (case k1 => k_asm); (case k2 => k_asm); (case k3 => k_asm); (case k4 => k_asm); (case k5 => k_asm); (case k6 => k_is); (case k7 => k_is); (case k8 => ktr_room); (case k9 => exact BindsTo.of_eq rfl); (case c5 => decide); (case kB => exact locs rfl); (case c2 => exact rfl); (case c3 => exact rfl); (case c4 => exact rfl); k_whole; intro g' L' h' FG' F' N' B' X' T'; (try dsimp only); (try k_lift B'); (try k_fold)))
  k_with "call ref" => (k_here; (try refine (?_ : wpAny _ (PySem.Around.deeper _ _) _ _ _ _)); (with_reducible show wpAny _ _ (PySem.call (Value.ref 138) _ _) _ _ _); (try k_fold); k_dflt (refine' Ctr.use0 (c_is_letter _ _) ?R187.k1 ?R187.k2 ?R187.k3 ?R187.k4 ?R187.k5 ?R187.k6 ?R187.k7 ?R187.k8 ?_; tb_start; intro v' nw' h' tk' F' N' q'; obtain ⟨q1, q2⟩ := q'; (first | (replace q1 := q1.trans (congrArg Value.bool (show isLetS _ = true by decide +kernel))) | (replace q1 := q1.trans (congrArg Value.bool (show isLetS _ = false by decide +kernel)))); subst q1 q2; (try dsimp only)))
  k_with "call ref" => (k_here; (try refine (?_ : wpAny _ (PySem.Around.deeper _ _) _ _ _ _)); (with_reducible show wpAny _ _ (PySem.call (Value.ref 145) _ _) _ _ _); (try k_fold); k_dflt (refine' Ctr.use0 (c_is_figure _ _) ?R188.k1 ?R188.k2 ?R188.k3 ?R188.k4 ?R188.k5 ?R188.k6 ?R188.k7 ?R188.k8 ?_; tb_start; intro v' nw' h' tk' F' N' q'; obtain ⟨q1, q2⟩ := q'; (first | (replace q1 := q1.trans (congrArg Value.bool (show isFigS _ = true by decide +kernel))) | (replace q1 := q1.trans (congrArg Value.bool (show isFigS _ = false by decide +kernel)))); subst q1 q2; (try dsimp only)))
  k_with "call ref" => (k_here; (try refine (?_ : wpAny _ (PySem.Around.deeper _ _) _ _ _ _)); (with_reducible show wpAny _ _ (PySem.call (Value.ref 164) _ _) _ _ _); (try k_fold); k_dflt (refine' Ctr.use0 (c_skipped _ _ _ _ ?R189.p1 ?R189.p2) ?R189.k1 ?R189.k2 ?R189.k3 ?R189.k4 ?R189.k5 ?R189.k6 ?R189.k7 ?R189.k8 ?_; (case p1 => decide); (case p2 => decide +kernel); tb_start; intro v' nw' h' tk' F' N' q'; obtain ⟨⟨n', tq, q1, e', g', l'⟩, q2⟩ := q'; clear g' l'; (first | (replace e' : n' = 0 := e'.trans (by decide +kernel)) | (replace e' : n' = 1 := e'.trans (by decide +kernel)) | (replace e' : n' = 2 := e'.trans (by decide +kernel)) | (replace e' : n' = 3 := e'.trans (by decide +kernel)) | (replace e' : n' = 4 := e'.trans (by decide +kernel)) | (replace e' : n' = 5 := e'.trans (by decide +kernel)) | (replace e' : n' = 6 := e'.trans (by decide +kernel)) | (replace e' : n' = 7 := e'.trans (by decide +kernel)) | (replace e' : n' = 8 := e'.trans (by decide +kernel)) | (replace e' : n' = 9 := e'.trans (by decide +kernel)) | (replace e' : n' = 10 := e'.trans (by decide +kernel)) | (replace e' : n' = 11 := e'.trans (by decide +kernel)) | (replace e' : n' = 12 := e'.trans (by decide +kernel))); subst e'; subst q1 q2; (try dsimp only)))
  k_with "call ref" => (k_here; (try refine (?_ : wpAny _ (PySem.Around.deeper _ _) _ _ _ _)); (with_reducible show wpAny _ _ (PySem.call (Value.ref 157) _ _) _ _ _); (try k_fold); k_dflt (refine' Ctr.use0 (c_figures_end _ _ _ _ ?R190.p1 ?R190.p2) ?R190.k1 ?R190.k2 ?R190.k3 ?R190.k4 ?R190.k5 ?R190.k6 ?R190.k7 ?R190.k8 ?_; (case p1 => decide); (case p2 => decide +kernel); tb_start; intro v' nw' h' tk' F' N' q'; obtain ⟨⟨n', tq, q1, e', g', l'⟩, q2⟩ := q'; clear g' l'; (first | (replace e' : n' = 0 := e'.trans (by decide +kernel)) | (replace e' : n' = 1 := e'.trans (by decide +kernel)) | (replace e' : n' = 2 := e'.trans (by decide +kernel)) | (replace e' : n' = 3 := e'.trans (by decide +kernel)) | (replace e' : n' = 4 := e'.trans (by decide +kernel)) | (replace e' : n' = 5 := e'.trans (by decide +kernel)) | (replace e' : n' = 6 := e'.trans (by decide +kernel)) | (replace e' : n' = 7 := e'.trans (by decide +kernel)) | (replace e' : n' = 8 := e'.trans (by decide +kernel)) | (replace e' : n' = 9 := e'.trans (by decide +kernel)) | (replace e' : n' = 10 := e'.trans (by decide +kernel)) | (replace e' : n' = 11 := e'.trans (by decide +kernel)) | (replace e' : n' = 12 := e'.trans (by decide +kernel))); subst e'; subst q1 q2; (try dsimp only)))
  k_with "call ref" => (k_here; (try refine (?_ : wpAny _ (PySem.Around.deeper _ _) _ _ _ _)); (with_reducible show wpAny _ _ (PySem.call (Value.ref 150) _ _) _ _ _); (try k_fold); k_dflt (refine' Ctr.use0 (c_capital _ _ ?R191.p1 ?R191.p2 ?R191.p3) ?R191.k1 ?R191.k2 ?R191.k3 ?R191.k4 ?R191.k5 ?R191.k6 ?R191.k7 ?R191.k8 ?_; (case p1 => decide +kernel); (case p2 => decide +kernel); (case p3 => decide +kernel); tb_start; intro v' nw' h' tk' F' N' q'; obtain ⟨⟨tq, q1⟩, q2⟩ := q'; (first | (replace q1 := q1.trans (congrArg (Value.str · tq) (show capR _ = Str.ofString "PRINT" by decide +kernel))) | (replace q1 := q1.trans (congrArg (Value.str · tq) (show capR _ = Str.ofString "GOTO" by decide +kernel))) | (replace q1 := q1.trans (congrArg (Value.str · tq) (show capR _ = Str.ofString "REM" by decide +kernel))) | (replace q1 := q1.trans (congrArg (Value.str · tq) (show capR _ = Str.ofString "A" by decide +kernel))) | (replace q1 := q1.trans (congrArg (Value.str · tq) (show capR _ = Str.ofString "DATA" by decide +kernel))) | (replace q1 := q1.trans (congrArg (Value.str · tq) (show capR _ = Str.ofString "10" by decide +kernel))) | (replace q1 := q1.trans (congrArg (Value.str · tq) (show capR _ = Str.ofString "1" by decide +kernel)))); (try dsimp only at q1); subst q1 q2; (try dsimp only)))
  k_with "call ref" => (k_here; (try refine (?_ : wpAny _ (PySem.Around.deeper _ _) _ _ _ _)); (with_reducible show wpAny _ _ (PySem.call (Value.ref 206) _ _) _ _ _); (try k_fold); k_dflt (refine' Ctr.use0 (c_data_end _ _) ?R192.k1 ?R192.k2 ?R192.k3 ?R192.k4 ?R192.k5 ?R192.k6 ?R192.k7 ?R192.k8 ?_; tb_start; intro v' nw' h' tk' F' N' q'; obtain ⟨tq, q1, q2⟩ := q'; subst q1 q2; (try dsimp only)))
  k_with "call ref" => (k_here; (try refine (?_ : wpAny _ (PySem.Around.deeper _ _) _ _ _ _)); (with_reducible show wpAny _ _ (PySem.call (Value.ref 185) _ _) _ _ _); (try k_fold); k_dflt (refine' Ctr.use0 (c_name_end _ _ _ _ ?R193.p1 ?R193.p2) ?R193.k1 ?R193.k2 ?R193.k3 ?R193.k4 ?R193.k5 ?R193.k6 ?R193.k7 ?R193.k8 ?_; (case p1 => decide); (case p2 => decide +kernel); tb_start; intro v' nw' h' tk' F' N' q'; obtain ⟨n', tq, q1, e', q2⟩ := q'; (first | (replace e' : n' = 3 := e'.trans (by decide +kernel)) | (replace e' : n' = 4 := e'.trans (by decide +kernel))); subst e'; subst q1 q2; (try dsimp only)))
  k_with "call ref" => (k_here; (try refine (?_ : wpAny _ (PySem.Around.deeper _ _) _ _ _ _)); (with_reducible show wpAny _ _ (PySem.call (Value.ref 220) _ _) _ _ _); (try k_fold); k_dflt ((first | (refine' Ctr.use0 (c_word_at _ _ _ _ 5 (Str.ofString "PRINT") (by decide) (by decide +kernel) (by decide +kernel) (by decide) (by decide +kernel) (by decide +kernel) (by decide +kernel) (by decide +kernel) (by decide +kernel) (by decide +kernel) (by decide +kernel)) ?R194.k1 ?R194.k2 ?R194.k3 ?R194.k4 ?R194.k5 ?R194.k6 ?R194.k7 ?R194.k8 ?_) | (refine' Ctr.use0 (c_word_at _ _ _ _ 7 (Str.ofString "A") (by decide) (by decide +kernel) (by decide +kernel) (by decide) (by decide +kernel) (by decide +kernel) (by decide +kernel) (by decide +kernel) (by decide +kernel) (by decide +kernel) (by decide +kernel)) ?R194.k1 ?R194.k2 ?R194.k3 ?R194.k4 ?R194.k5 ?R194.k6 ?R194.k7 ?R194.k8 ?_) | (refine' Ctr.use0 (c_word_at _ _ _ _ 4 (Str.ofString "GOTO") (by decide) (by decide +kernel) (by decide +kernel) (by decide) (by decide +kernel) (by decide +kernel) (by decide +kernel) (by decide +kernel) (by decide +kernel) (by decide +kernel) (by decide +kernel)) ?R194.k1 ?R194.k2 ?R194.k3 ?R194.k4 ?R194.k5 ?R194.k6 ?R194.k7 ?R194.k8 ?_) | (refine' Ctr.use0 (c_word_at _ _ _ _ 1 (Str.ofString "A") (by decide) (by decide +kernel) (by decide +kernel) (by decide) (by decide +kernel) (by decide +kernel) (by decide +kernel) (by decide +kernel) (by decide +kernel) (by decide +kernel) (by decide +kernel)) ?R194.k1 ?R194.k2 ?R194.k3 ?R194.k4 ?R194.k5 ?R194.k6 ?R194.k7 ?R194.k8 ?_)); tb_start; intro v' nw' h' tk' F' N' q'; obtain ⟨P, L1, T1, te, t, t2, c, q1, q2, l1, l2, l3⟩ := q'; (first | (rw [kd_PRINT] at q2) | (rw [kd_GOTO] at q2) | (rw [kd_A] at q2)); subst q1 q2; (try dsimp only)))
  k_steps
  refine' hret _ _ _ _ ?rF ?rN ?rP
  case rF => k_asm
  case rN => exact News.cut3 (by with_reducible assumption)
  case rP =>
    first
      | (refine ⟨_, _, _, _, _, _, _, rfl, rfl, ?_, ?_, by first | with_reducible assumption | exact allLt_all (And.right (show (_ : Prop) ∧ AllLt _ news by with_reducible assumption)) | exact allLt_all (And.right (And.right (show (_ : Prop) ∧ (_ : Prop) ∧ AllLt _ news by with_reducible assumption))) | exact allLt_all (And.right (And.right (And.right (show (_ : Prop) ∧ (_ : Prop) ∧ (_ : Prop) ∧ AllLt _ news by with_reducible assumption)))) | exact allLt_all (And.right (And.right (And.right (And.right (show (_ : Prop) ∧ (_ : Prop) ∧ (_ : Prop) ∧ (_ : Prop) ∧ AllLt _ news by with_reducible assumption)))))⟩ <;> (show (_ : Nat) < _; omega))
      | (refine ⟨_, _, _, _, _, _, _, rfl, by rw [show Txt.slice (Txt.slice (Str.ofString "REM A  B") (some 3) none) (some 1) none = Str.ofString "A  B" by decide +kernel]; rfl, ?_, ?_, by first | with_reducible assumption | exact allLt_all (And.right (show (_ : Prop) ∧ AllLt _ news by with_reducible assumption)) | exact allLt_all (And.right (And.right (show (_ : Prop) ∧ (_ : Prop) ∧ AllLt _ news by with_reducible assumption))) | exact allLt_all (And.right (And.right (And.right (show (_ : Prop) ∧ (_ : Prop) ∧ (_ : Prop) ∧ AllLt _ news by with_reducible assumption)))) | exact allLt_all (And.right (And.right (And.right (And.right (show (_ : Prop) ∧ (_ : Prop) ∧ (_ : Prop) ∧ (_ : Prop) ∧ AllLt _ news by with_reducible assumption)))))⟩ <;> (show (_ : Nat) < _; omega))
      | (refine ⟨_, _, _, _, _, _, _, rfl, by rw [show Txt.find3 (Str.ofString "PRINT \"X\"") (Str.ofString "\"") (6 + 1) = 8 by decide +kernel]; rfl, ?_, ?_, by first | with_reducible assumption | exact allLt_all (And.right (show (_ : Prop) ∧ AllLt _ news by with_reducible assumption)) | exact allLt_all (And.right (And.right (show (_ : Prop) ∧ (_ : Prop) ∧ AllLt _ news by with_reducible assumption))) | exact allLt_all (And.right (And.right (And.right (show (_ : Prop) ∧ (_ : Prop) ∧ (_ : Prop) ∧ AllLt _ news by with_reducible assumption)))) | exact allLt_all (And.right (And.right (And.right (And.right (show (_ : Prop) ∧ (_ : Prop) ∧ (_ : Prop) ∧ (_ : Prop) ∧ AllLt _ news by with_reducible assumption)))))⟩ <;> (show (_ : Nat) < _; omega))

set_option maxHeartbeats 4000000 in
theorem c_tokD (t t2 : Tok) : Ctr w mean mg mb 227 10 news [.str (Str.ofString "DATA 1, 2") t, .int 0 t2] (fun v nw => ∃ P L1 T1 T2 te a b a2 b2 c, v = .ref P ∧ nw = (P, endObj L1 9 te) :: (L1, listOf #[.ref T1, .ref T2] c) :: (T2, tokObj (Str.ofString "raw") (Str.ofString "1, 2") a2 b2) :: (T1, tokObj (Str.ofString "word") (Str.ofString "DATA") a b) :: news ∧ T1 < T2 ∧ T2 < L1 ∧ L1 < P ∧ (∀ p ∈ news, p.1 < T1)) NoExc := by
  intro dp un gd cn cs a ccd cl outer A₀ base h₀ L m s Q E B F X N T hk hd' hu hret hexc
  refine wpAny_call ?_
  k_dflt cell_enter
  refine (let ak := _; (?_ : wpAny _ ak _ _ _ _))
  w_top off
  k_with_none
  k_with "execs cons" => ((try k_fold); refine wpAny_execs_cons ?_; refine (let sk := _; (?_ : wpAny _ _ _ _ _ sk)))
  k_with "eval Call" => (k_here; (with_reducible show wpAny _ _ (eval (Expr.Call (Expr.Name _ _) _ [] _) _) _ _ _); k_dflt (refine Call_ ?_))
  k_with "exec Raise some none" => (k_here; (refine' raise_B ?_ ?R179.hh); (case hh => k_dflt rfl))
  k_with "call ref" => (k_here; (try refine (?_ : wpAny _ (PySem.Around.deeper _ _) _ _ _ _)); (with_reducible show wpAny _ _ (PySem.call (Value.ref 34) _ _) _ _ _); refine' c_basic ?R180.b1 ?R180.b2 ?R180.b3 ?R180.b4 ?R180.b5 ?R180.b6 ?R180.b7 ?R180.b8 ?R180.b9 ?_; (case b1 => k_asm); (case b2 => k_asm); (case b3 => k_asm); (case b4 => k_asm); (case b5 => k_asm); (case b6 => rfl); (case b7 => rfl); (case b8 => first | rfl | assumption); (case b9 => ktr_room); intro e' dx' oD' ta' h' tk' F' N' d1' d2' d3')
  k_with "RaiseB" => (refine' ⟨_, _, _, rfl, ?R181.r1, ?R181.r2, ?_⟩; (case r1 => exact (News.get (by assumption) (.head _))); (case r2 => exact (Frag.In.keeps (by assumption) (Fr.keep (by assumption))) _ _ (by k_dflt k_is)))
  k_with "leaving ref" => (k_here; first
  | (refine' leave_newB ?R182.k1 ?R182.k2 ?R182.k3 ?R182.k4 ?R182.k5 ?R182.k6 ?_; (case k1 => assumption); (case k2 => assumption); (case k3 => assumption); (case k4 => assumption); (case k5 => assumption); (case k6 => assumption); k_whole; intro h' R' U'; (try dsimp only at R' U' ⊢))
  | (refine' leave_onB ?R182.k1 ?R182.k2 ?R182.k3 ?R182.k4 ?_; (case k3 => assumption); (case k1 => assumption); (case k4 => assumption); (case k2 => assumption); k_whole; intro h' R' U'; (try dsimp only at R' U' ⊢)))
  k_with "ite" => (k_here; first | (refine' iteT ?R183.h ?_; (case h => decide +kernel)) | (refine' iteF ?R183.h ?_; (case h => decide +kernel)))
  k_with "call builtin:str.find" => (k_here; k_dflt (refine c_find4 ?_))
  k_with "subscriptTail Name Name str int" => (k_here; k_dflt (refine item_str (by decide +kernel) (by decide +kernel) (by decide +kernel) ?_); intro _)
  k_with "call ref" => (k_here; (try refine (?_ : wpAny _ (PySem.Around.deeper _ _) _ _ _ _)); (with_reducible show wpAny _ _ (PySem.call (Value.ref _) _ _) _ _ _); (try k_fold); refine wpAny_call ?_; k_dflt (refine' code_def ?R186.k1 ?R186.k2 ?R186.k3 ?R186.k4 ?R186.k5 ?R186.kA ?R186.kF ?R186.kK ?R186.k6 ?R186.k7 ?R186.k8 ?R186.k9 ?R186.kB ?_ ?R186.c2 ?R186.c3 ?R186.c4 ?R186.c5; (case kA => exact rfl); (case kF => exact rfl); (case kK => first | exact rfl | assumption); (case k1 => k_asm); (case k2 => k_asm); (case k3 => k_asm); (case k4 => k_asm); (case k5 => k_asm); (case k6 => k_is); (case k7 => k_is); (case k8 => ktr_room); (case k9 => exact BindsTo.of_eq rfl); (case c5 => decide); (case kB => exact locs rfl); (case c2 => exact rfl); (case c3 => exact rfl); (case c4 => exact rfl); k_whole; intro g' L' h' FG' F' N' B' X' T'; (try dsimp only); (try k_lift B'); (try k_fold)))
  k_with "call ref" => (k_here; (try refine (?_ : wpAny _ (PySem.Around.deeper _ _) _ _ _ _)); (with_reducible show wpAny _ _ (PySem.call (Value.ref 138) _ _) _ _ _); (try k_fold); k_dflt (refine' Ctr.use0 (c_is_letter _ _) ?R187.k1 ?R187.k2 ?R187.k3 ?R187.k4 ?R187.k5 ?R187.k6 ?R187.k7 ?R187.k8 ?_; tb_start; intro v' nw' h' tk' F' N' q'; obtain ⟨q1, q2⟩ := q'; (first | (replace q1 := q1.trans (congrArg Value.bool (show isLetS _ = true by decide +kernel))) | (replace q1 := q1.trans (congrArg Value.bool (show isLetS _ = false by decide +kernel)))); subst q1 q2; (try dsimp only)))
  k_with "call ref" => (k_here; (try refine (?_ : wpAny _ (PySem.Around.deeper _ _) _ _ _ _)); (with_reducible show wpAny _ _ (PySem.call (Value.ref 145) _ _) _ _ _); (try k_fold); k_dflt (refine' Ctr.use0 (c_is_figure _ _) ?R188.k1 ?R188.k2 ?R188.k3 ?R188.k4 ?R188.k5 ?R188.k6 ?R188.k7 ?R188.k8 ?_; tb_start; intro v' nw' h' tk' F' N' q'; obtain ⟨q1, q2⟩ := q'; (first | (replace q1 := q1.trans (congrArg Value.bool (show isFigS _ = true by decide +kernel))) | (replace q1 := q1.trans (congrArg Value.bool (show isFigS _ = false by decide +kernel)))); subst q1 q2; (try dsimp only)))
  k_with "call ref" => (k_here; (try refine (?_ : wpAny _ (PySem.Around.deeper _ _) _ _ _ _)); (with_reducible show wpAny _ _ (PySem.call (Value.ref 164) _ _) _ _ _); (try k_fold); k_dflt (refine' Ctr.use0 (c_skipped _ _ _ _ ?R189.p1 ?R189.p2) ?R189.k1 ?R189.k2 ?R189.k3 ?R189.k4 ?R189.k5 ?R189.k6 ?R189.k7 ?R189.k8 ?_; (case p1 => decide); (case p2 => decide +kernel); tb_start; intro v' nw' h' tk' F' N' q'; obtain ⟨⟨n', tq, q1, e', g', l'⟩, q2⟩ := q'; clear g' l'; (first | (replace e' : n' = 0 := e'.trans (by decide +kernel)) | (replace e' : n' = 1 := e'.trans (by decide +kernel)) | (replace e' : n' = 2 := e'.trans (by decide +kernel)) | (replace e' : n' = 3 := e'.trans (by decide +kernel)) | (replace e' : n' = 4 := e'.trans (by decide +kernel)) | (replace e' : n' = 5 := e'.trans (by decide +kernel)) | (replace e' : n' = 6 := e'.trans (by decide +kernel)) | (replace e' : n' = 7 := e'.trans (by decide +kernel)) | (replace e' : n' = 8 := e'.trans (by decide +kernel)) | (replace e' : n' = 9 := e'.trans (by decide +kernel)) | (replace e' : n' = 10 := e'.trans (by decide +kernel)) | (replace e' : n' = 11 := e'.trans (by decide +kernel)) | (replace e' : n' = 12 := e'.trans (by decide +kernel))); subst e'; subst q1 q2; (try dsimp only)))
  k_with "call ref" => (k_here; (try refine (?_ : wpAny _ (PySem.Around.deeper _ _) _ _ _ _)); (with_reducible show wpAny _ _ (PySem.call (Value.ref 157) _ _) _ _ _); (try k_fold); k_dflt (refine' Ctr.use0 (c_figures_end _ _ _ _ ?R190.p1 ?R190.p2) ?R190.k1 ?R190.k2 ?R190.k3 ?R190.k4 ?R190.k5 ?R190.k6 ?R190.k7 ?R190.k8 ?_; (case p1 => decide); (case p2 => decide +kernel); tb_start; intro v' nw' h' tk' F' N' q'; obtain ⟨⟨n', tq, q1, e', g', l'⟩, q2⟩ := q'; clear g' l'; (first | (replace e' : n' = 0 := e'.trans (by decide +kernel)) | (replace e' : n' = 1 := e'.trans (by decide +kernel)) | (replace e' : n' = 2 := e'.trans (by decide +kernel)) | (replace e' : n' = 3 := e'.trans (by decide +kernel)) | (replace e' : n' = 4 := e'.trans (by decide +kernel)) | (replace e' : n' = 5 := e'.trans (by decide +kernel)) | (replace e' : n' = 6 := e'.trans (by decide +kernel)) | (replace e' : n' = 7 := e'.trans (by decide +kernel)) | (replace e' : n' = 8 := e'.trans (by decide +kernel)) | (replace e' : n' = 9 := e'.trans (by decide +kernel)) | (replace e' : n' = 10 := e'.trans (by decide +kernel)) | (replace e' : n' = 11 := e'.trans (by decide +kernel)) | (replace e' : n' = 12 := e'.trans (by decide +kernel))); subst e'; subst q1 q2; (try dsimp only)))
  k_with "call ref" => (k_here; (try refine (?_ : wpAny _ (PySem.Around.deeper _ _) _ _ _ _)); (with_reducible show wpAny _ _ (PySem.call (Value.ref 150) _ _) _ _ _); (try k_fold); k_dflt (refine' Ctr.use0 (c_capital _ _ ?R191.p1 ?R191.p2 ?R191.p3) ?R191.k1 ?R191.k2 ?R191.k3 ?R191.k4 ?R191.k5 ?R191.k6 ?R191.k7 ?R191.k8 ?_; (case p1 => decide +kernel); (case p2 => decide +kernel); (case p3 => decide +kernel); tb_start; intro v' nw' h' tk' F' N' q'; obtain ⟨⟨tq, q1⟩, q2⟩ := q'; (first | (replace q1 := q1.trans (congrArg (Value.str · tq) (show capR _ = Str.ofString "PRINT" by decide +kernel))) | (replace q1 := q1.trans (congrArg (Value.str · tq) (show capR _ = Str.ofString "GOTO" by decide +kernel))) | (replace q1 := q1.trans (congrArg (Value.str · tq) (show capR _ = Str.ofString "REM" by decide +kernel))) | (replace q1 := q1.trans (congrArg (Value.str · tq) (show capR _ = Str.ofString "A" by decide +kernel))) | (replace q1 := q1.trans (congrArg (Value.str · tq) (show capR _ = Str.ofString "DATA" by decide +kernel))) | (replace q1 := q1.trans (congrArg (Value.str · tq) (show capR _ = Str.ofString "10" by decide +kernel))) | (replace q1 := q1.trans (congrArg (Value.str · tq) (show capR _ = Str.ofString "1" by decide +kernel)))); (try dsimp only at q1); subst q1 q2; (try dsimp only)))
  k_with "call ref" => (k_here; (try refine (?_ : wpAny _ (PySem.Around.deeper _ _) _ _ _ _)); (with_reducible show wpAny _ _ (PySem.call (Value.ref 206) _ _) _ _ _); (try k_fold); k_dflt (refine' Ctr.use0 (c_data_end _ _) ?R192.k1 ?R192.k2 ?R192.k3 ?R192.k4 ?R192.k5 ?R192.k6 ?R192.k7 ?R192.k8 ?_; tb_start; intro v' nw' h' tk' F' N' q'; obtain ⟨tq, q1, q2⟩ := q'; subst q1 q2; (try dsimp only)))
  k_with "call ref" => (k_here; (try refine (?_ : wpAny _ (PySem.Around.deeper _ _) _ _ _ _)); (with_reducible show wpAny _ _ (PySem.call (Value.ref 185) _ _) _ _ _); (try k_fold); k_dflt (refine' Ctr.use0 (c_name_end _ _ _ _ ?R193.p1 ?R193.p2) ?R193.k1 ?R193.k2 ?R193.k3 ?R193.k4 ?R193.k5 ?R193.k6 ?R193.k7 ?R193.k8 ?_; (case p1 => decide); (case p2 => decide +kernel); tb_start; intro v' nw' h' tk' F' N' q'; obtain ⟨n', tq, q1, e', q2⟩ := q'; (first | (replace e' : n' = 3 := e'.trans (by decide +kernel)) | (replace e' : n' = 4 := e'.trans (by decide +kernel))); subst e'; subst q1 q2; (try dsimp only)))
  k_with "call ref" => (k_here; (try refine (?_ : wpAny _ (PySem.Around.deeper _ _) _ _ _ _)); (with_reducible show wpAny _ _ (PySem.call (Value.ref 220) _ _) _ _ _); (try k_fold); k_dflt ((first | (refine' Ctr.use0 (c_word_at _ _ _ _ 5 (Str.ofString "PRINT") (by decide) (by decide +kernel) (by decide +kernel) (by decide) (by decide +kernel) (by decide +kernel) (by decide +kernel) (by decide +kernel) (by decide +kernel) (by decide +kernel) (by decide +kernel)) ?R194.k1 ?R194.k2 ?R194.k3 ?R194.k4 ?R194.k5 ?R194.k6 ?R194.k7 ?R194.k8 ?_) | (refine' Ctr.use0 (c_word_at _ _ _ _ 7 (Str.ofString "A") (by decide) (by decide +kernel) (by decide +kernel) (by decide) (by decide +kernel) (by decide +kernel) (by decide +kernel) (by decide +kernel) (by decide +kernel) (by decide +kernel) (by decide +kernel)) ?R194.k1 ?R194.k2 ?R194.k3 ?R194.k4 ?R194.k5 ?R194.k6 ?R194.k7 ?R194.k8 ?_) | (refine' Ctr.use0 (c_word_at _ _ _ _ 4 (Str.ofString "GOTO") (by decide) (by decide +kernel) (by decide +kernel) (by decide) (by decide +kernel) (by decide +kernel) (by decide +kernel) (by decide +kernel) (by decide +kernel) (by decide +kernel) (by decide +kernel)) ?R194.k1 ?R194.k2 ?R194.k3 ?R194.k4 ?R194.k5 ?R194.k6 ?R194.k7 ?R194.k8 ?_) | (refine' Ctr.use0 (c_word_at _ _ _ _ 1 (Str.ofString "A") (by decide) (by decide +kernel) (by decide +kernel) (by decide) (by decide +kernel) (by decide +kernel) (by decide +kernel) (by decide +kernel) (by decide +kernel) (by decide +kernel) (by decide +kernel)) ?R194.k1 ?R194.k2 ?R194.k3 ?R194.k4 ?R194.k5 ?R194.k6 ?R194.k7 ?R194.k8 ?_)); tb_start; intro v' nw' h' tk' F' N' q'; obtain ⟨P, L1, T1, te, t, t2, c, q1, q2, l1, l2, l3⟩ := q'; (first | (rw [kd_PRINT] at q2) | (rw [kd_GOTO] at q2) | (rw [kd_A] at q2)); subst q1 q2; (try dsimp only)))
  k_steps
  refine' hret _ _ _ _ ?rF ?rN ?rP
  case rF => k_asm
  case rN => k_asm
  case rP =>
    refine ⟨_, _, _, _, _, _, _, _, _, _, rfl, rfl, ?_, ?_, ?_, by first | with_reducible assumption | exact allLt_all (And.right (show (_ : Prop) ∧ AllLt _ news by with_reducible assumption)) | exact allLt_all (And.right (And.right (show (_ : Prop) ∧ (_ : Prop) ∧ AllLt _ news by with_reducible assumption))) | exact allLt_all (And.right (And.right (And.right (show (_ : Prop) ∧ (_ : Prop) ∧ (_ : Prop) ∧ AllLt _ news by with_reducible assumption)))) | exact allLt_all (And.right (And.right (And.right (And.right (show (_ : Prop) ∧ (_ : Prop) ∧ (_ : Prop) ∧ (_ : Prop) ∧ AllLt _ news by with_reducible assumption)))))⟩
    all_goals (show (_ : Nat) < _; omega)

end
end Mine

end
section
open PySem PySem.W PyProof.Rows PySem.Calls
set_option Elab.async false
set_option linter.all false
set_option maxRecDepth 100000
set_option rowWalk.seconds 0
namespace Mine
section
variable {w : World} {mean : ExcName → Option Value} {mg mb : Str → Option Value} {news : Led}



def Toks0 (nw : Led) (v : Value) : Prop := ∃ l c T0 a0 b0 T1 a1 b1, v = .ref l ∧ (l, listOf #[.ref T0, .ref T1] c) ∈ nw ∧ (T0, tokObj (Str.ofString "word") (Str.ofString "PRINT") a0 b0) ∈ nw ∧ (T1, tokObj (Str.ofString "name") (Str.ofString "A") a1 b1) ∈ nw
set_option maxHeartbeats 4000000 in
theorem c_toks0 (t : Tok) : Ctr w mean mg mb 234 12 news [.str (Str.ofString "PRINT A") t] (fun v nw => Toks0 nw v ∧ ∀ p ∈ news, p ∈ nw) NoExc := by
  intro dp un gd cn cs a ccd cl outer A₀ base h₀ L m s Q E B F X N T hk hd' hu hret hexc
  refine wpAny_call ?_
  k_dflt cell_enter
  refine (let ak := _; (?_ : wpAny _ ak _ _ _ _))
  w_top off
  k_with_none
  k_with "execs cons" => ((try k_fold); refine wpAny_execs_cons ?_; refine (let sk := _; (?_ : wpAny _ _ _ _ _ sk)))
  k_with "eval Call" => (k_here; (with_reducible show wpAny _ _ (eval (Expr.Call (Expr.Name _ _) _ [] _) _) _ _ _); k_dflt (refine Call_ ?_))
  k_with "exec Raise some none" => (k_here; (refine' raise_B ?_ ?R196.hh); (case hh => k_dflt rfl))
  k_with "call ref" => (k_here; (try refine (?_ : wpAny _ (PySem.Around.deeper _ _) _ _ _ _)); (with_reducible show wpAny _ _ (PySem.call (Value.ref 34) _ _) _ _ _); refine' c_basic ?R197.b1 ?R197.b2 ?R197.b3 ?R197.b4 ?R197.b5 ?R197.b6 ?R197.b7 ?R197.b8 ?R197.b9 ?_; (case b1 => k_asm); (case b2 => k_asm); (case b3 => k_asm); (case b4 => k_asm); (case b5 => k_asm); (case b6 => rfl); (case b7 => rfl); (case b8 => first | rfl | assumption); (case b9 => ktr_room); intro e' dx' oD' ta' h' tk' F' N' d1' d2' d3')
  k_with "RaiseB" => (refine' ⟨_, _, _, rfl, ?R198.r1, ?R198.r2, ?_⟩; (case r1 => exact (News.get (by assumption) (.head _))); (case r2 => exact (Frag.In.keeps (by assumption) (Fr.keep (by assumption))) _ _ (by k_dflt k_is)))
  k_with "leaving ref" => (k_here; first
  | (refine' leave_newB ?R199.k1 ?R199.k2 ?R199.k3 ?R199.k4 ?R199.k5 ?R199.k6 ?_; (case k1 => assumption); (case k2 => assumption); (case k3 => assumption); (case k4 => assumption); (case k5 => assumption); (case k6 => assumption); k_whole; intro h' R' U'; (try dsimp only at R' U' ⊢))
  | (refine' leave_onB ?R199.k1 ?R199.k2 ?R199.k3 ?R199.k4 ?_; (case k3 => assumption); (case k1 => assumption); (case k4 => assumption); (case k2 => assumption); k_whole; intro h' R' U'; (try dsimp only at R' U' ⊢)))
  k_with "ite" => (k_here; first | (refine' iteT ?R200.h ?_; (case h => decide +kernel)) | (refine' iteF ?R200.h ?_; (case h => decide +kernel)))
  k_with "call builtin:str.find" => (k_here; k_dflt (refine c_find4 ?_))
  k_with "subscriptTail Name Name str int" => (k_here; k_dflt (refine item_str (by decide +kernel) (by decide +kernel) (by decide +kernel) ?_); intro _)
  k_with "call ref" => (k_here; (try refine (?_ : wpAny _ (PySem.Around.deeper _ _) _ _ _ _)); (with_reducible show wpAny _ _ (PySem.call (Value.ref 164) _ _) _ _ _); (try k_fold); k_dflt (refine' Ctr.use0 (c_skipped _ _ _ _ ?R203.p1 ?R203.p2) ?R203.k1 ?R203.k2 ?R203.k3 ?R203.k4 ?R203.k5 ?R203.k6 ?R203.k7 ?R203.k8 ?_; (case p1 => decide); (case p2 => decide +kernel); tb_start; intro v' nw' h' tk' F' N' q'; obtain ⟨⟨n', tq, q1, e', g', l'⟩, q2⟩ := q'; clear g' l'; (first | (replace e' : n' = 0 := e'.trans (by decide +kernel)) | (replace e' : n' = 1 := e'.trans (by decide +kernel)) | (replace e' : n' = 2 := e'.trans (by decide +kernel)) | (replace e' : n' = 3 := e'.trans (by decide +kernel)) | (replace e' : n' = 4 := e'.trans (by decide +kernel)) | (replace e' : n' = 5 := e'.trans (by decide +kernel)) | (replace e' : n' = 6 := e'.trans (by decide +kernel)) | (replace e' : n' = 7 := e'.trans (by decide +kernel)) | (replace e' : n' = 8 := e'.trans (by decide +kernel)) | (replace e' : n' = 9 := e'.trans (by decide +kernel)) | (replace e' : n' = 10 := e'.trans (by decide +kernel)) | (replace e' : n' = 11 := e'.trans (by decide +kernel)) | (replace e' : n' = 12 := e'.trans (by decide +kernel))); subst e'; subst q1 q2; (try dsimp only)))
  k_with "call ref" => (k_here; (try refine (?_ : wpAny _ (PySem.Around.deeper _ _) _ _ _ _)); (with_reducible show wpAny _ _ (PySem.call (Value.ref 227) _ _) _ _ _); (try k_fold); k_dflt ((first | (refine' Ctr.use0 (c_tok0 _ _) ?R204.k1 ?R204.k2 ?R204.k3 ?R204.k4 ?R204.k5 ?R204.k6 ?R204.k7 ?R204.k8 ?_) | (refine' Ctr.use0 (c_tok1 _ _) ?R204.k1 ?R204.k2 ?R204.k3 ?R204.k4 ?R204.k5 ?R204.k6 ?R204.k7 ?R204.k8 ?_) | (refine' Ctr.use0 (c_tok2 _ _) ?R204.k1 ?R204.k2 ?R204.k3 ?R204.k4 ?R204.k5 ?R204.k6 ?R204.k7 ?R204.k8 ?_) | (refine' Ctr.use0 (c_tok3 _ _) ?R204.k1 ?R204.k2 ?R204.k3 ?R204.k4 ?R204.k5 ?R204.k6 ?R204.k7 ?R204.k8 ?_) | (refine' Ctr.use0 (c_tok4 _ _) ?R204.k1 ?R204.k2 ?R204.k3 ?R204.k4 ?R204.k5 ?R204.k6 ?R204.k7 ?R204.k8 ?_) | (refine' Ctr.use0 (c_tok5 _ _) ?R204.k1 ?R204.k2 ?R204.k3 ?R204.k4 ?R204.k5 ?R204.k6 ?R204.k7 ?R204.k8 ?_) | (refine' Ctr.use0 (c_tok6 _ _) ?R204.k1 ?R204.k2 ?R204.k3 ?R204.k4 ?R204.k5 ?R204.k6 ?R204.k7 ?R204.k8 ?_) | (refine' Ctr.use0 (c_tok7 _ _) ?R204.k1 ?R204.k2 ?R204.k3 ?R204.k4 ?R204.k5 ?R204.k6 ?R204.k7 ?R204.k8 ?_) | (refine' Ctr.use0 (c_tok8 _ _) ?R204.k1 ?R204.k2 ?R204.k3 ?R204.k4 ?R204.k5 ?R204.k6 ?R204.k7 ?R204.k8 ?_) | (refine' Ctr.use0 (c_tok9 _ _) ?R204.k1 ?R204.k2 ?R204.k3 ?R204.k4 ?R204.k5 ?R204.k6 ?R204.k7 ?R204.k8 ?_)); tb_start; intro v' nw' h' tk' F' N' q'; obtain ⟨P, L1, T1, te, t, t2, c, q1, q2, l1, l2, l3⟩ := q'; subst q1 q2; (replace l1 : @LT.lt Nat _ T1 L1 := l1); (replace l2 : @LT.lt Nat _ L1 P := l2); (try k_lt l3); (try dsimp only)))
  k_with "call ref" => (k_here; (try refine (?_ : wpAny _ (PySem.Around.deeper _ _) _ _ _ _)); (with_reducible show wpAny _ _ (PySem.call (Value.ref 227) _ _) _ _ _); (try k_fold); k_dflt ((refine' Ctr.use0 (c_tokD _ _) ?R205.k1 ?R205.k2 ?R205.k3 ?R205.k4 ?R205.k5 ?R205.k6 ?R205.k7 ?R205.k8 ?_); tb_start; intro v' nw' h' tk' F' N' q'; obtain ⟨P, L1, T1, T2, te, a, b, a2, b2, c, q1, q2, l1, l2, l3, l4⟩ := q'; subst q1 q2; (replace l1 : @LT.lt Nat _ T1 T2 := l1); (replace l2 : @LT.lt Nat _ T2 L1 := l2); (replace l3 : @LT.lt Nat _ L1 P := l3); (try k_lt l4); (try dsimp only)))
  k_steps
  refine' hret _ _ _ _ ?rF ?rN ?rP
  case rF => k_asm
  case rN => k_asm
  case rP => exact ⟨⟨_, _, _, _, _, _, _, _, rfl, by k_mem, by k_mem, by k_mem⟩, fun p hp => by repeat (first | exact hp | refine List.Mem.tail _ ?_)⟩

def Toks1 (nw : Led) (v : Value) : Prop := ∃ l c T0 a0 b0 T1 a1 b1, v = .ref l ∧ (l, listOf #[.ref T0, .ref T1] c) ∈ nw ∧ (T0, tokObj (Str.ofString "word") (Str.ofString "GOTO") a0 b0) ∈ nw ∧ (T1, tokObj (Str.ofString "number") (Str.ofString "10") a1 b1) ∈ nw
set_option maxHeartbeats 4000000 in
theorem c_toks1 (t : Tok) : Ctr w mean mg mb 234 12 news [.str (Str.ofString "GOTO 10") t] (fun v nw => Toks1 nw v ∧ ∀ p ∈ news, p ∈ nw) NoExc := by
  intro dp un gd cn cs a ccd cl outer A₀ base h₀ L m s Q E B F X N T hk hd' hu hret hexc
  refine wpAny_call ?_
  k_dflt cell_enter
  refine (let ak := _; (?_ : wpAny _ ak _ _ _ _))
  w_top off
  k_with_none
  k_with "execs cons" => ((try k_fold); refine wpAny_execs_cons ?_; refine (let sk := _; (?_ : wpAny _ _ _ _ _ sk)))
  k_with "eval Call" => (k_here; (with_reducible show wpAny _ _ (eval (Expr.Call (Expr.Name _ _) _ [] _) _) _ _ _); k_dflt (refine Call_ ?_))
  k_with "exec Raise some none" => (k_here; (refine' raise_B ?_ ?R196.hh); (case hh => k_dflt rfl))
  k_with "call ref" => (k_here; (try refine (?_ : wpAny _ (PySem.Around.deeper _ _) _ _ _ _)); (with_reducible show wpAny _ _ (PySem.call (Value.ref 34) _ _) _ _ _); refine' c_basic ?R197.b1 ?R197.b2 ?R197.b3 ?R197.b4 ?R197.b5 ?R197.b6 ?R197.b7 ?R197.b8 ?R197.b9 ?_; (case b1 => k_asm); (case b2 => k_asm); (case b3 => k_asm); (case b4 => k_asm); (case b5 => k_asm); (case b6 => rfl); (case b7 => rfl); (case b8 => first | rfl | assumption); (case b9 => ktr_room); intro e' dx' oD' ta' h' tk' F' N' d1' d2' d3')
  k_with "RaiseB" => (refine' ⟨_, _, _, rfl, ?R198.r1, ?R198.r2, ?_⟩; (case r1 => exact (News.get (by assumption) (.head _))); (case r2 => exact (Frag.In.keeps (by assumption) (Fr.keep (by assumption))) _ _ (by k_dflt k_is)))
  k_with "leaving ref" => (k_here; first
  | (refine' leave_newB ?R199.k1 ?R199.k2 ?R199.k3 ?R199.k4 ?R199.k5 ?R199.k6 ?_; (case k1 => assumption); (case k2 => assumption); (case k3 => assumption); (case k4 => assumption); (case k5 => assumption); (case k6 => assumption); k_whole; intro h' R' U'; (try dsimp only at R' U' ⊢))
  | (refine' leave_onB ?R199.k1 ?R199.k2 ?R199.k3 ?R199.k4 ?_; (case k3 => assumption); (case k1 => assumption); (case k4 => assumption); (case k2 => assumption); k_whole; intro h' R' U'; (try dsimp only at R' U' ⊢)))
  k_with "ite" => (k_here; first | (refine' iteT ?R200.h ?_; (case h => decide +kernel)) | (refine' iteF ?R200.h ?_; (case h => decide +kernel)))
  k_with "call builtin:str.find" => (k_here; k_dflt (refine c_find4 ?_))
  k_with "subscriptTail Name Name str int" => (k_here; k_dflt (refine item_str (by decide +kernel) (by decide +kernel) (by decide +kernel) ?_); intro _)
  k_with "call ref" => (k_here; (try refine (?_ : wpAny _ (PySem.Around.deeper _ _) _ _ _ _)); (with_reducible show wpAny _ _ (PySem.call (Value.ref 164) _ _) _ _ _); (try k_fold); k_dflt (refine' Ctr.use0 (c_skipped _ _ _ _ ?R203.p1 ?R203.p2) ?R203.k1 ?R203.k2 ?R203.k3 ?R203.k4 ?R203.k5 ?R203.k6 ?R203.k7 ?R203.k8 ?_; (case p1 => decide); (case p2 => decide +kernel); tb_start; intro v' nw' h' tk' F' N' q'; obtain ⟨⟨n', tq, q1, e', g', l'⟩, q2⟩ := q'; clear g' l'; (first | (replace e' : n' = 0 := e'.trans (by decide +kernel)) | (replace e' : n' = 1 := e'.trans (by decide +kernel)) | (replace e' : n' = 2 := e'.trans (by decide +kernel)) | (replace e' : n' = 3 := e'.trans (by decide +kernel)) | (replace e' : n' = 4 := e'.trans (by decide +kernel)) | (replace e' : n' = 5 := e'.trans (by decide +kernel)) | (replace e' : n' = 6 := e'.trans (by decide +kernel)) | (replace e' : n' = 7 := e'.trans (by decide +kernel)) | (replace e' : n' = 8 := e'.trans (by decide +kernel)) | (replace e' : n' = 9 := e'.trans (by decide +kernel)) | (replace e' : n' = 10 := e'.trans (by decide +kernel)) | (replace e' : n' = 11 := e'.trans (by decide +kernel)) | (replace e' : n' = 12 := e'.trans (by decide +kernel))); subst e'; subst q1 q2; (try dsimp only)))
  k_with "call ref" => (k_here; (try refine (?_ : wpAny _ (PySem.Around.deeper _ _) _ _ _ _)); (with_reducible show wpAny _ _ (PySem.call (Value.ref 227) _ _) _ _ _); (try k_fold); k_dflt ((first | (refine' Ctr.use0 (c_tok0 _ _) ?R204.k1 ?R204.k2 ?R204.k3 ?R204.k4 ?R204.k5 ?R204.k6 ?R204.k7 ?R204.k8 ?_) | (refine' Ctr.use0 (c_tok1 _ _) ?R204.k1 ?R204.k2 ?R204.k3 ?R204.k4 ?R204.k5 ?R204.k6 ?R204.k7 ?R204.k8 ?_) | (refine' Ctr.use0 (c_tok2 _ _) ?R204.k1 ?R204.k2 ?R204.k3 ?R204.k4 ?R204.k5 ?R204.k6 ?R204.k7 ?R204.k8 ?_) | (refine' Ctr.use0 (c_tok3 _ _) ?R204.k1 ?R204.k2 ?R204.k3 ?R204.k4 ?R204.k5 ?R204.k6 ?R204.k7 ?R204.k8 ?_) | (refine' Ctr.use0 (c_tok4 _ _) ?R204.k1 ?R204.k2 ?R204.k3 ?R204.k4 ?R204.k5 ?R204.k6 ?R204.k7 ?R204.k8 ?_) | (refine' Ctr.use0 (c_tok5 _ _) ?R204.k1 ?R204.k2 ?R204.k3 ?R204.k4 ?R204.k5 ?R204.k6 ?R204.k7 ?R204.k8 ?_) | (refine' Ctr.use0 (c_tok6 _ _) ?R204.k1 ?R204.k2 ?R204.k3 ?R204.k4 ?R204.k5 ?R204.k6 ?R204.k7 ?R204.k8 ?_) | (refine' Ctr.use0 (c_tok7 _ _) ?R204.k1 ?R204.k2 ?R204.k3 ?R204.k4 ?R204.k5 ?R204.k6 ?R204.k7 ?R204.k8 ?_) | (refine' Ctr.use0 (c_tok8 _ _) ?R204.k1 ?R204.k2 ?R204.k3 ?R204.k4 ?R204.k5 ?R204.k6 ?R204.k7 ?R204.k8 ?_) | (refine' Ctr.use0 (c_tok9 _ _) ?R204.k1 ?R204.k2 ?R204.k3 ?R204.k4 ?R204.k5 ?R204.k6 ?R204.k7 ?R204.k8 ?_)); tb_start; intro v' nw' h' tk' F' N' q'; obtain ⟨P, L1, T1, te, t, t2, c, q1, q2, l1, l2, l3⟩ := q'; subst q1 q2; (replace l1 : @LT.lt Nat _ T1 L1 := l1); (replace l2 : @LT.lt Nat _ L1 P := l2); (try k_lt l3); (try dsimp only)))
  k_with "call ref" => (k_here; (try refine (?_ : wpAny _ (PySem.Around.deeper _ _) _ _ _ _)); (with_reducible show wpAny _ _ (PySem.call (Value.ref 227) _ _) _ _ _); (try k_fold); k_dflt ((refine' Ctr.use0 (c_tokD _ _) ?R205.k1 ?R205.k2 ?R205.k3 ?R205.k4 ?R205.k5 ?R205.k6 ?R205.k7 ?R205.k8 ?_); tb_start; intro v' nw' h' tk' F' N' q'; obtain ⟨P, L1, T1, T2, te, a, b, a2, b2, c, q1, q2, l1, l2, l3, l4⟩ := q'; subst q1 q2; (replace l1 : @LT.lt Nat _ T1 T2 := l1); (replace l2 : @LT.lt Nat _ T2 L1 := l2); (replace l3 : @LT.lt Nat _ L1 P := l3); (try k_lt l4); (try dsimp only)))
  k_steps
  refine' hret _ _ _ _ ?rF ?rN ?rP
  case rF => k_asm
  case rN => k_asm
  case rP => exact ⟨⟨_, _, _, _, _, _, _, _, rfl, by k_mem, by k_mem, by k_mem⟩, fun p hp => by repeat (first | exact hp | refine List.Mem.tail _ ?_)⟩

def Toks2 (nw : Led) (v : Value) : Prop := ∃ l c T0 a0 b0, v = .ref l ∧ (l, listOf #[.ref T0] c) ∈ nw ∧ (T0, tokObj (Str.ofString "rem") (Str.ofString "A  B") a0 b0) ∈ nw
set_option maxHeartbeats 4000000 in
theorem c_toks2 (t : Tok) : Ctr w mean mg mb 234 12 news [.str (Str.ofString "REM A  B") t] (fun v nw => Toks2 nw v ∧ ∀ p ∈ news, p ∈ nw) NoExc := by
  intro dp un gd cn cs a ccd cl outer A₀ base h₀ L m s Q E B F X N T hk hd' hu hret hexc
  refine wpAny_call ?_
  k_dflt cell_enter
  refine (let ak := _; (?_ : wpAny _ ak _ _ _ _))
  w_top off
  k_with_none
  k_with "execs cons" => ((try k_fold); refine wpAny_execs_cons ?_; refine (let sk := _; (?_ : wpAny _ _ _ _ _ sk)))
  k_with "eval Call" => (k_here; (with_reducible show wpAny _ _ (eval (Expr.Call (Expr.Name _ _) _ [] _) _) _ _ _); k_dflt (refine Call_ ?_))
  k_with "exec Raise some none" => (k_here; (refine' raise_B ?_ ?R196.hh); (case hh => k_dflt rfl))
  k_with "call ref" => (k_here; (try refine (?_ : wpAny _ (PySem.Around.deeper _ _) _ _ _ _)); (with_reducible show wpAny _ _ (PySem.call (Value.ref 34) _ _) _ _ _); refine' c_basic ?R197.b1 ?R197.b2 ?R197.b3 ?R197.b4 ?R197.b5 ?R197.b6 ?R197.b7 ?R197.b8 ?R197.b9 ?_; (case b1 => k_asm); (case b2 => k_asm); (case b3 => k_asm); (case b4 => k_asm); (case b5 => k_asm); (case b6 => rfl); (case b7 => rfl); (case b8 => first | rfl | assumption); (case b9 => ktr_room); intro e' dx' oD' ta' h' tk' F' N' d1' d2' d3')
  k_with "RaiseB" => (refine' ⟨_, _, _, rfl, ?R198.r1, ?R198.r2, ?_⟩; (case r1 => exact (News.get (by assumption) (.head _))); (case r2 => exact (Frag.In.keeps (by assumption) (Fr.keep (by assumption))) _ _ (by k_dflt k_is)))
  k_with "leaving ref" => (k_here; first
  | (refine' leave_newB ?R199.k1 ?R199.k2 ?R199.k3 ?R199.k4 ?R199.k5 ?R199.k6 ?_; (case k1 => assumption); (case k2 => assumption); (case k3 => assumption); (case k4 => assumption); (case k5 => assumption); (case k6 => assumption); k_whole; intro h' R' U'; (try dsimp only at R' U' ⊢))
  | (refine' leave_onB ?R199.k1 ?R199.k2 ?R199.k3 ?R199.k4 ?_; (case k3 => assumption); (case k1 => assumption); (case k4 => assumption); (case k2 => assumption); k_whole; intro h' R' U'; (try dsimp only at R' U' ⊢)))
  k_with "ite" => (k_here; first | (refine' iteT ?R200.h ?_; (case h => decide +kernel)) | (refine' iteF ?R200.h ?_; (case h => decide +kernel)))
  k_with "call builtin:str.find" => (k_here; k_dflt (refine c_find4 ?_))
  k_with "subscriptTail Name Name str int" => (k_here; k_dflt (refine item_str (by decide +kernel) (by decide +kernel) (by decide +kernel) ?_); intro _)
  k_with "call ref" => (k_here; (try refine (?_ : wpAny _ (PySem.Around.deeper _ _) _ _ _ _)); (with_reducible show wpAny _ _ (PySem.call (Value.ref 164) _ _) _ _ _); (try k_fold); k_dflt (refine' Ctr.use0 (c_skipped _ _ _ _ ?R203.p1 ?R203.p2) ?R203.k1 ?R203.k2 ?R203.k3 ?R203.k4 ?R203.k5 ?R203.k6 ?R203.k7 ?R203.k8 ?_; (case p1 => decide); (case p2 => decide +kernel); tb_start; intro v' nw' h' tk' F' N' q'; obtain ⟨⟨n', tq, q1, e', g', l'⟩, q2⟩ := q'; clear g' l'; (first | (replace e' : n' = 0 := e'.trans (by decide +kernel)) | (replace e' : n' = 1 := e'.trans (by decide +kernel)) | (replace e' : n' = 2 := e'.trans (by decide +kernel)) | (replace e' : n' = 3 := e'.trans (by decide +kernel)) | (replace e' : n' = 4 := e'.trans (by decide +kernel)) | (replace e' : n' = 5 := e'.trans (by decide +kernel)) | (replace e' : n' = 6 := e'.trans (by decide +kernel)) | (replace e' : n' = 7 := e'.trans (by decide +kernel)) | (replace e' : n' = 8 := e'.trans (by decide +kernel)) | (replace e' : n' = 9 := e'.trans (by decide +kernel)) | (replace e' : n' = 10 := e'.trans (by decide +kernel)) | (replace e' : n' = 11 := e'.trans (by decide +kernel)) | (replace e' : n' = 12 := e'.trans (by decide +kernel))); subst e'; subst q1 q2; (try dsimp only)))
  k_with "call ref" => (k_here; (try refine (?_ : wpAny _ (PySem.Around.deeper _ _) _ _ _ _)); (with_reducible show wpAny _ _ (PySem.call (Value.ref 227) _ _) _ _ _); (try k_fold); k_dflt ((first | (refine' Ctr.use0 (c_tok0 _ _) ?R204.k1 ?R204.k2 ?R204.k3 ?R204.k4 ?R204.k5 ?R204.k6 ?R204.k7 ?R204.k8 ?_) | (refine' Ctr.use0 (c_tok1 _ _) ?R204.k1 ?R204.k2 ?R204.k3 ?R204.k4 ?R204.k5 ?R204.k6 ?R204.k7 ?R204.k8 ?_) | (refine' Ctr.use0 (c_tok2 _ _) ?R204.k1 ?R204.k2 ?R204.k3 ?R204.k4 ?R204.k5 ?R204.k6 ?R204.k7 ?R204.k8 ?_) | (refine' Ctr.use0 (c_tok3 _ _) ?R204.k1 ?R204.k2 ?R204.k3 ?R204.k4 ?R204.k5 ?R204.k6 ?R204.k7 ?R204.k8 ?_) | (refine' Ctr.use0 (c_tok4 _ _) ?R204.k1 ?R204.k2 ?R204.k3 ?R204.k4 ?R204.k5 ?R204.k6 ?R204.k7 ?R204.k8 ?_) | (refine' Ctr.use0 (c_tok5 _ _) ?R204.k1 ?R204.k2 ?R204.k3 ?R204.k4 ?R204.k5 ?R204.k6 ?R204.k7 ?R204.k8 ?_) | (refine' Ctr.use0 (c_tok6 _ _) ?R204.k1 ?R204.k2 ?R204.k3 ?R204.k4 ?R204.k5 ?R204.k6 ?R204.k7 ?R204.k8 ?_) | (refine' Ctr.use0 (c_tok7 _ _) ?R204.k1 ?R204.k2 ?R204.k3 ?R204.k4 ?R204.k5 ?R204.k6 ?R204.k7 ?R204.k8 ?_) | (refine' Ctr.use0 (c_tok8 _ _) ?R204.k1 ?R204.k2 ?R204.k3 ?R204.k4 ?R204.k5 ?R204.k6 ?R204.k7 ?R204.k8 ?_) | (refine' Ctr.use0 (c_tok9 _ _) ?R204.k1 ?R204.k2 ?R204.k3 ?R204.k4 ?R204.k5 ?R204.k6 ?R204.k7 ?R204.k8 ?_)); tb_start; intro v' nw' h' tk' F' N' q'; obtain ⟨P, L1, T1, te, t, t2, c, q1, q2, l1, l2, l3⟩ := q'; subst q1 q2; (replace l1 : @LT.lt Nat _ T1 L1 := l1); (replace l2 : @LT.lt Nat _ L1 P := l2); (try k_lt l3); (try dsimp only)))
  k_with "call ref" => (k_here; (try refine (?_ : wpAny _ (PySem.Around.deeper _ _) _ _ _ _)); (with_reducible show wpAny _ _ (PySem.call (Value.ref 227) _ _) _ _ _); (try k_fold); k_dflt ((refine' Ctr.use0 (c_tokD _ _) ?R205.k1 ?R205.k2 ?R205.k3 ?R205.k4 ?R205.k5 ?R205.k6 ?R205.k7 ?R205.k8 ?_); tb_start; intro v' nw' h' tk' F' N' q'; obtain ⟨P, L1, T1, T2, te, a, b, a2, b2, c, q1, q2, l1, l2, l3, l4⟩ := q'; subst q1 q2; (replace l1 : @LT.lt Nat _ T1 T2 := l1); (replace l2 : @LT.lt Nat _ T2 L1 := l2); (replace l3 : @LT.lt Nat _ L1 P := l3); (try k_lt l4); (try dsimp only)))
  k_steps
  refine' hret _ _ _ _ ?rF ?rN ?rP
  case rF => k_asm
  case rN => k_asm
  case rP => exact ⟨⟨_, _, _, _, _, rfl, by k_mem, by k_mem⟩, fun p hp => by repeat (first | exact hp | refine List.Mem.tail _ ?_)⟩

def Toks3 (nw : Led) (v : Value) : Prop := ∃ l c T0 a0 b0 T1 a1 b1 T2 a2 b2, v = .ref l ∧ (l, listOf #[.ref T0, .ref T1, .ref T2] c) ∈ nw ∧ (T0, tokObj (Str.ofString "name") (Str.ofString "A") a0 b0) ∈ nw ∧ (T1, tokObj (Str.ofString "sign") (Str.ofString "=") a1 b1) ∈ nw ∧ (T2, tokObj (Str.ofString "number") (Str.ofString "1") a2 b2) ∈ nw
set_option maxHeartbeats 4000000 in
theorem c_toks3 (t : Tok) : Ctr w mean mg mb 234 12 news [.str (Str.ofString "A=1") t] (fun v nw => Toks3 nw v ∧ ∀ p ∈ news, p ∈ nw) NoExc := by
  intro dp un gd cn cs a ccd cl outer A₀ base h₀ L m s Q E B F X N T hk hd' hu hret hexc
  refine wpAny_call ?_
  k_dflt cell_enter
  refine (let ak := _; (?_ : wpAny _ ak _ _ _ _))
  w_top off
  k_with_none
  k_with "execs cons" => ((try k_fold); refine wpAny_execs_cons ?_; refine (let sk := _; (?_ : wpAny _ _ _ _ _ sk)))
  k_with "eval Call" => (k_here; (with_reducible show wpAny _ _ (eval (Expr.Call (Expr.Name _ _) _ [] _) _) _ _ _); k_dflt (refine Call_ ?_))
  k_with "exec Raise some none" => (k_here; (refine' raise_B ?_ ?R196.hh); (case hh => k_dflt rfl))
  k_with "call ref" => (k_here; (try refine (?_ : wpAny _ (PySem.Around.deeper _ _) _ _ _ _)); (with_reducible show wpAny _ _ (PySem.call (Value.ref 34) _ _) _ _ _); refine' c_basic ?R197.b1 ?R197.b2 ?R197.b3 ?R197.b4 ?R197.b5 ?R197.b6 ?R197.b7 ?R197.b8 ?R197.b9 ?_; (case b1 => k_asm); (case b2 => k_asm); (case b3 => k_asm); (case b4 => k_asm); (case b5 => k_asm); (case b6 => rfl); (case b7 => rfl); (case b8 => first | rfl | assumption); (case b9 => ktr_room); intro e' dx' oD' ta' h' tk' F' N' d1' d2' d3')
  k_with "RaiseB" => (refine' ⟨_, _, _, rfl, ?R198.r1, ?R198.r2, ?_⟩; (case r1 => exact (News.get (by assumption) (.head _))); (case r2 => exact (Frag.In.keeps (by assumption) (Fr.keep (by assumption))) _ _ (by k_dflt k_is)))
  k_with "leaving ref" => (k_here; first
  | (refine' leave_newB ?R199.k1 ?R199.k2 ?R199.k3 ?R199.k4 ?R199.k5 ?R199.k6 ?_; (case k1 => assumption); (case k2 => assumption); (case k3 => assumption); (case k4 => assumption); (case k5 => assumption); (case k6 => assumption); k_whole; intro h' R' U'; (try dsimp only at R' U' ⊢))
  | (refine' leave_onB ?R199.k1 ?R199.k2 ?R199.k3 ?R199.k4 ?_; (case k3 => assumption); (case k1 => assumption); (case k4 => assumption); (case k2 => assumption); k_whole; intro h' R' U'; (try dsimp only at R' U' ⊢)))
  k_with "ite" => (k_here; first | (refine' iteT ?R200.h ?_; (case h => decide +kernel)) | (refine' iteF ?R200.h ?_; (case h => decide +kernel)))
  k_with "call builtin:str.find" => (k_here; k_dflt (refine c_find4 ?_))
  k_with "subscriptTail Name Name str int" => (k_here; k_dflt (refine item_str (by decide +kernel) (by decide +kernel) (by decide +kernel) ?_); intro _)
  k_with "call ref" => (k_here; (try refine (?_ : wpAny _ (PySem.Around.deeper _ _) _ _ _ _)); (with_reducible show wpAny _ _ (PySem.call (Value.ref 164) _ _) _ _ _); (try k_fold); k_dflt (refine' Ctr.use0 (c_skipped _ _ _ _ ?R203.p1 ?R203.p2) ?R203.k1 ?R203.k2 ?R203.k3 ?R203.k4 ?R203.k5 ?R203.k6 ?R203.k7 ?R203.k8 ?_; (case p1 => decide); (case p2 => decide +kernel); tb_start; intro v' nw' h' tk' F' N' q'; obtain ⟨⟨n', tq, q1, e', g', l'⟩, q2⟩ := q'; clear g' l'; (first | (replace e' : n' = 0 := e'.trans (by decide +kernel)) | (replace e' : n' = 1 := e'.trans (by decide +kernel)) | (replace e' : n' = 2 := e'.trans (by decide +kernel)) | (replace e' : n' = 3 := e'.trans (by decide +kernel)) | (replace e' : n' = 4 := e'.trans (by decide +kernel)) | (replace e' : n' = 5 := e'.trans (by decide +kernel)) | (replace e' : n' = 6 := e'.trans (by decide +kernel)) | (replace e' : n' = 7 := e'.trans (by decide +kernel)) | (replace e' : n' = 8 := e'.trans (by decide +kernel)) | (replace e' : n' = 9 := e'.trans (by decide +kernel)) | (replace e' : n' = 10 := e'.trans (by decide +kernel)) | (replace e' : n' = 11 := e'.trans (by decide +kernel)) | (replace e' : n' = 12 := e'.trans (by decide +kernel))); subst e'; subst q1 q2; (try dsimp only)))
  k_with "call ref" => (k_here; (try refine (?_ : wpAny _ (PySem.Around.deeper _ _) _ _ _ _)); (with_reducible show wpAny _ _ (PySem.call (Value.ref 227) _ _) _ _ _); (try k_fold); k_dflt ((first | (refine' Ctr.use0 (c_tok0 _ _) ?R204.k1 ?R204.k2 ?R204.k3 ?R204.k4 ?R204.k5 ?R204.k6 ?R204.k7 ?R204.k8 ?_) | (refine' Ctr.use0 (c_tok1 _ _) ?R204.k1 ?R204.k2 ?R204.k3 ?R204.k4 ?R204.k5 ?R204.k6 ?R204.k7 ?R204.k8 ?_) | (refine' Ctr.use0 (c_tok2 _ _) ?R204.k1 ?R204.k2 ?R204.k3 ?R204.k4 ?R204.k5 ?R204.k6 ?R204.k7 ?R204.k8 ?_) | (refine' Ctr.use0 (c_tok3 _ _) ?R204.k1 ?R204.k2 ?R204.k3 ?R204.k4 ?R204.k5 ?R204.k6 ?R204.k7 ?R204.k8 ?_) | (refine' Ctr.use0 (c_tok4 _ _) ?R204.k1 ?R204.k2 ?R204.k3 ?R204.k4 ?R204.k5 ?R204.k6 ?R204.k7 ?R204.k8 ?_) | (refine' Ctr.use0 (c_tok5 _ _) ?R204.k1 ?R204.k2 ?R204.k3 ?R204.k4 ?R204.k5 ?R204.k6 ?R204.k7 ?R204.k8 ?_) | (refine' Ctr.use0 (c_tok6 _ _) ?R204.k1 ?R204.k2 ?R204.k3 ?R204.k4 ?R204.k5 ?R204.k6 ?R204.k7 ?R204.k8 ?_) | (refine' Ctr.use0 (c_tok7 _ _) ?R204.k1 ?R204.k2 ?R204.k3 ?R204.k4 ?R204.k5 ?R204.k6 ?R204.k7 ?R204.k8 ?_) | (refine' Ctr.use0 (c_tok8 _ _) ?R204.k1 ?R204.k2 ?R204.k3 ?R204.k4 ?R204.k5 ?R204.k6 ?R204.k7 ?R204.k8 ?_) | (refine' Ctr.use0 (c_tok9 _ _) ?R204.k1 ?R204.k2 ?R204.k3 ?R204.k4 ?R204.k5 ?R204.k6 ?R204.k7 ?R204.k8 ?_)); tb_start; intro v' nw' h' tk' F' N' q'; obtain ⟨P, L1, T1, te, t, t2, c, q1, q2, l1, l2, l3⟩ := q'; subst q1 q2; (replace l1 : @LT.lt Nat _ T1 L1 := l1); (replace l2 : @LT.lt Nat _ L1 P := l2); (try k_lt l3); (try dsimp only)))
  k_with "call ref" => (k_here; (try refine (?_ : wpAny _ (PySem.Around.deeper _ _) _ _ _ _)); (with_reducible show wpAny _ _ (PySem.call (Value.ref 227) _ _) _ _ _); (try k_fold); k_dflt ((refine' Ctr.use0 (c_tokD _ _) ?R205.k1 ?R205.k2 ?R205.k3 ?R205.k4 ?R205.k5 ?R205.k6 ?R205.k7 ?R205.k8 ?_); tb_start; intro v' nw' h' tk' F' N' q'; obtain ⟨P, L1, T1, T2, te, a, b, a2, b2, c, q1, q2, l1, l2, l3, l4⟩ := q'; subst q1 q2; (replace l1 : @LT.lt Nat _ T1 T2 := l1); (replace l2 : @LT.lt Nat _ T2 L1 := l2); (replace l3 : @LT.lt Nat _ L1 P := l3); (try k_lt l4); (try dsimp only)))
  k_steps
  refine' hret _ _ _ _ ?rF ?rN ?rP
  case rF => k_asm
  case rN => k_asm
  case rP => exact ⟨⟨_, _, _, _, _, _, _, _, _, _, _, rfl, by k_mem, by k_mem, by k_mem, by k_mem⟩, fun p hp => by repeat (first | exact hp | refine List.Mem.tail _ ?_)⟩

def Toks4 (nw : Led) (v : Value) : Prop := ∃ l c T0 a0 b0 T1 a1 b1, v = .ref l ∧ (l, listOf #[.ref T0, .ref T1] c) ∈ nw ∧ (T0, tokObj (Str.ofString "word") (Str.ofString "PRINT") a0 b0) ∈ nw ∧ (T1, tokObj (Str.ofString "text") (Str.ofString "X") a1 b1) ∈ nw
set_option maxHeartbeats 4000000 in
theorem c_toks4 (t : Tok) : Ctr w mean mg mb 234 12 news [.str (Str.ofString "PRINT \"X\"") t] (fun v nw => Toks4 nw v ∧ ∀ p ∈ news, p ∈ nw) NoExc := by
  intro dp un gd cn cs a ccd cl outer A₀ base h₀ L m s Q E B F X N T hk hd' hu hret hexc
  refine wpAny_call ?_
  k_dflt cell_enter
  refine (let ak := _; (?_ : wpAny _ ak _ _ _ _))
  w_top off
  k_with_none
  k_with "execs cons" => ((try k_fold); refine wpAny_execs_cons ?_; refine (let sk := _; (?_ : wpAny _ _ _ _ _ sk)))
  k_with "eval Call" => (k_here; (with_reducible show wpAny _ _ (eval (Expr.Call (Expr.Name _ _) _ [] _) _) _ _ _); k_dflt (refine Call_ ?_))
  k_with "exec Raise some none" => (k_here; (refine' raise_B ?_ ?R196.hh); (case hh => k_dflt rfl))
  k_with "call ref" => (k_here; (try refine (?_ : wpAny _ (PySem.Around.deeper _ _) _ _ _ _)); (with_reducible show wpAny _ _ (PySem.call (Value.ref 34) _ _) _ _ _); refine' c_basic ?R197.b1 ?R197.b2 ?R197.b3 ?R197.b4 ?R197.b5 ?R197.b6 ?R197.b7 ?R197.b8 ?R197.b9 ?_; (case b1 => k_asm); (case b2 => k_asm); (case b3 => k_asm); (case b4 => k_asm); (case b5 => k_asm); (case b6 => rfl); (case b7 => rfl); (case b8 => first | rfl | assumption); (case b9 => ktr_room); intro e' dx' oD' ta' h' tk' F' N' d1' d2' d3')
  k_with "RaiseB" => (refine' ⟨_, _, _, rfl, ?R198.r1, ?R198.r2, ?_⟩; (case r1 => exact (News.get (by assumption) (.head _))); (case r2 => exact (Frag.In.keeps (by assumption) (Fr.keep (by assumption))) _ _ (by k_dflt k_is)))
  k_with "leaving ref" => (k_here; first
  | (refine' leave_newB ?R199.k1 ?R199.k2 ?R199.k3 ?R199.k4 ?R199.k5 ?R199.k6 ?_; (case k1 => assumption); (case k2 => assumption); (case k3 => assumption); (case k4 => assumption); (case k5 => assumption); (case k6 => assumption); k_whole; intro h' R' U'; (try dsimp only at R' U' ⊢))
  | (refine' leave_onB ?R199.k1 ?R199.k2 ?R199.k3 ?R199.k4 ?_; (case k3 => assumption); (case k1 => assumption); (case k4 => assumption); (case k2 => assumption); k_whole; intro h' R' U'; (try dsimp only at R' U' ⊢)))
  k_with "ite" => (k_here; first | (refine' iteT ?R200.h ?_; (case h => decide +kernel)) | (refine' iteF ?R200.h ?_; (case h => decide +kernel)))
  k_with "call builtin:str.find" => (k_here; k_dflt (refine c_find4 ?_))
  k_with "subscriptTail Name Name str int" => (k_here; k_dflt (refine item_str (by decide +kernel) (by decide +kernel) (by decide +kernel) ?_); intro _)
  k_with "call ref" => (k_here; (try refine (?_ : wpAny _ (PySem.Around.deeper _ _) _ _ _ _)); (with_reducible show wpAny _ _ (PySem.call (Value.ref 164) _ _) _ _ _); (try k_fold); k_dflt (refine' Ctr.use0 (c_skipped _ _ _ _ ?R203.p1 ?R203.p2) ?R203.k1 ?R203.k2 ?R203.k3 ?R203.k4 ?R203.k5 ?R203.k6 ?R203.k7 ?R203.k8 ?_; (case p1 => decide); (case p2 => decide +kernel); tb_start; intro v' nw' h' tk' F' N' q'; obtain ⟨⟨n', tq, q1, e', g', l'⟩, q2⟩ := q'; clear g' l'; (first | (replace e' : n' = 0 := e'.trans (by decide +kernel)) | (replace e' : n' = 1 := e'.trans (by decide +kernel)) | (replace e' : n' = 2 := e'.trans (by decide +kernel)) | (replace e' : n' = 3 := e'.trans (by decide +kernel)) | (replace e' : n' = 4 := e'.trans (by decide +kernel)) | (replace e' : n' = 5 := e'.trans (by decide +kernel)) | (replace e' : n' = 6 := e'.trans (by decide +kernel)) | (replace e' : n' = 7 := e'.trans (by decide +kernel)) | (replace e' : n' = 8 := e'.trans (by decide +kernel)) | (replace e' : n' = 9 := e'.trans (by decide +kernel)) | (replace e' : n' = 10 := e'.trans (by decide +kernel)) | (replace e' : n' = 11 := e'.trans (by decide +kernel)) | (replace e' : n' = 12 := e'.trans (by decide +kernel))); subst e'; subst q1 q2; (try dsimp only)))
  k_with "call ref" => (k_here; (try refine (?_ : wpAny _ (PySem.Around.deeper _ _) _ _ _ _)); (with_reducible show wpAny _ _ (PySem.call (Value.ref 227) _ _) _ _ _); (try k_fold); k_dflt ((first | (refine' Ctr.use0 (c_tok0 _ _) ?R204.k1 ?R204.k2 ?R204.k3 ?R204.k4 ?R204.k5 ?R204.k6 ?R204.k7 ?R204.k8 ?_) | (refine' Ctr.use0 (c_tok1 _ _) ?R204.k1 ?R204.k2 ?R204.k3 ?R204.k4 ?R204.k5 ?R204.k6 ?R204.k7 ?R204.k8 ?_) | (refine' Ctr.use0 (c_tok2 _ _) ?R204.k1 ?R204.k2 ?R204.k3 ?R204.k4 ?R204.k5 ?R204.k6 ?R204.k7 ?R204.k8 ?_) | (refine' Ctr.use0 (c_tok3 _ _) ?R204.k1 ?R204.k2 ?R204.k3 ?R204.k4 ?R204.k5 ?R204.k6 ?R204.k7 ?R204.k8 ?_) | (refine' Ctr.use0 (c_tok4 _ _) ?R204.k1 ?R204.k2 ?R204.k3 ?R204.k4 ?R204.k5 ?R204.k6 ?R204.k7 ?R204.k8 ?_) | (refine' Ctr.use0 (c_tok5 _ _) ?R204.k1 ?R204.k2 ?R204.k3 ?R204.k4 ?R204.k5 ?R204.k6 ?R204.k7 ?R204.k8 ?_) | (refine' Ctr.use0 (c_tok6 _ _) ?R204.k1 ?R204.k2 ?R204.k3 ?R204.k4 ?R204.k5 ?R204.k6 ?R204.k7 ?R204.k8 ?_) | (refine' Ctr.use0 (c_tok7 _ _) ?R204.k1 ?R204.k2 ?R204.k3 ?R204.k4 ?R204.k5 ?R204.k6 ?R204.k7 ?R204.k8 ?_) | (refine' Ctr.use0 (c_tok8 _ _) ?R204.k1 ?R204.k2 ?R204.k3 ?R204.k4 ?R204.k5 ?R204.k6 ?R204.k7 ?R204.k8 ?_) | (refine' Ctr.use0 (c_tok9 _ _) ?R204.k1 ?R204.k2 ?R204.k3 ?R204.k4 ?R204.k5 ?R204.k6 ?R204.k7 ?R204.k8 ?_)); tb_start; intro v' nw' h' tk' F' N' q'; obtain ⟨P, L1, T1, te, t, t2, c, q1, q2, l1, l2, l3⟩ := q'; subst q1 q2; (replace l1 : @LT.lt Nat _ T1 L1 := l1); (replace l2 : @LT.lt Nat _ L1 P := l2); (try k_lt l3); (try dsimp only)))
  k_with "call ref" => (k_here; (try refine (?_ : wpAny _ (PySem.Around.deeper _ _) _ _ _ _)); (with_reducible show wpAny _ _ (PySem.call (Value.ref 227) _ _) _ _ _); (try k_fold); k_dflt ((refine' Ctr.use0 (c_tokD _ _) ?R205.k1 ?R205.k2 ?R205.k3 ?R205.k4 ?R205.k5 ?R205.k6 ?R205.k7 ?R205.k8 ?_); tb_start; intro v' nw' h' tk' F' N' q'; obtain ⟨P, L1, T1, T2, te, a, b, a2, b2, c, q1, q2, l1, l2, l3, l4⟩ := q'; subst q1 q2; (replace l1 : @LT.lt Nat _ T1 T2 := l1); (replace l2 : @LT.lt Nat _ T2 L1 := l2); (replace l3 : @LT.lt Nat _ L1 P := l3); (try k_lt l4); (try dsimp only)))
  k_steps
  refine' hret _ _ _ _ ?rF ?rN ?rP
  case rF => k_asm
  case rN => k_asm
  case rP => exact ⟨⟨_, _, _, _, _, _, _, _, rfl, by k_mem, by k_mem, by k_mem⟩, fun p hp => by repeat (first | exact hp | refine List.Mem.tail _ ?_)⟩

def Toks5 (nw : Led) (v : Value) : Prop := ∃ l c T0 a0 b0 T1 a1 b1, v = .ref l ∧ (l, listOf #[.ref T0, .ref T1] c) ∈ nw ∧ (T0, tokObj (Str.ofString "word") (Str.ofString "DATA") a0 b0) ∈ nw ∧ (T1, tokObj (Str.ofString "raw") (Str.ofString "1, 2") a1 b1) ∈ nw
set_option maxHeartbeats 4000000 in
theorem c_toks5 (t : Tok) : Ctr w mean mg mb 234 12 news [.str (Str.ofString "DATA 1, 2") t] (fun v nw => Toks5 nw v ∧ ∀ p ∈ news, p ∈ nw) NoExc := by
  intro dp un gd cn cs a ccd cl outer A₀ base h₀ L m s Q E B F X N T hk hd' hu hret hexc
  refine wpAny_call ?_
  k_dflt cell_enter
  refine (let ak := _; (?_ : wpAny _ ak _ _ _ _))
  w_top off
  k_with_none
  k_with "execs cons" => ((try k_fold); refine wpAny_execs_cons ?_; refine (let sk := _; (?_ : wpAny _ _ _ _ _ sk)))
  k_with "eval Call" => (k_here; (with_reducible show wpAny _ _ (eval (Expr.Call (Expr.Name _ _) _ [] _) _) _ _ _); k_dflt (refine Call_ ?_))
  k_with "exec Raise some none" => (k_here; (refine' raise_B ?_ ?R196.hh); (case hh => k_dflt rfl))
  k_with "call ref" => (k_here; (try refine (?_ : wpAny _ (PySem.Around.deeper _ _) _ _ _ _)); (with_reducible show wpAny _ _ (PySem.call (Value.ref 34) _ _) _ _ _); refine' c_basic ?R197.b1 ?R197.b2 ?R197.b3 ?R197.b4 ?R197.b5 ?R197.b6 ?R197.b7 ?R197.b8 ?R197.b9 ?_; (case b1 => k_asm); (case b2 => k_asm); (case b3 => k_asm); (case b4 => k_asm); (case b5 => k_asm); (case b6 => rfl); (case b7 => rfl); (case b8 => first | rfl | assumption); (case b9 => ktr_room); intro e' dx' oD' ta' h' tk' F' N' d1' d2' d3')
  k_with "RaiseB" => (refine' ⟨_, _, _, rfl, ?R198.r1, ?R198.r2, ?_⟩; (case r1 => exact (News.get (by assumption) (.head _))); (case r2 => exact (Frag.In.keeps (by assumption) (Fr.keep (by assumption))) _ _ (by k_dflt k_is)))
  k_with "leaving ref" => (k_here; first
  | (refine' leave_newB ?R199.k1 ?R199.k2 ?R199.k3 ?R199.k4 ?R199.k5 ?R199.k6 ?_; (case k1 => assumption); (case k2 => assumption); (case k3 => assumption); (case k4 => assumption); (case k5 => assumption); (case k6 => assumption); k_whole; intro h' R' U'; (try dsimp only at R' U' ⊢))
  | (refine' leave_onB ?R199.k1 ?R199.k2 ?R199.k3 ?R199.k4 ?_; (case k3 => assumption); (case k1 => assumption); (case k4 => assumption); (case k2 => assumption); k_whole; intro h' R' U'; (try dsimp only at R' U' ⊢)))
  k_with "ite" => (k_here; first | (refine' iteT ?R200.h ?_; (case h => decide +kernel)) | (refine' iteF ?R200.h ?_; (case h => decide +kernel)))
  k_with "call builtin:str.find" => (k_here; k_dflt (refine c_find4 ?_))
  k_with "subscriptTail Name Name str int" => (k_here; k_dflt (refine item_str (by decide +kernel) (by decide +kernel) (by decide +kernel) ?_); intro _)
  k_with "call ref" => (k_here; (try refine (?_ : wpAny _ (PySem.Around.deeper _ _) _ _ _ _)); (with_reducible show wpAny _ _ (PySem.call (Value.ref 164) _ _) _ _ _); (try k_fold); k_dflt (refine' Ctr.use0 (c_skipped _ _ _ _ ?R203.p1 ?R203.p2) ?R203.k1 ?R203.k2 ?R203.k3 ?R203.k4 ?R203.k5 ?R203.k6 ?R203.k7 ?R203.k8 ?_; (case p1 => decide); (case p2 => decide +kernel); tb_start; intro v' nw' h' tk' F' N' q'; obtain ⟨⟨n', tq, q1, e', g', l'⟩, q2⟩ := q'; clear g' l'; (first | (replace e' : n' = 0 := e'.trans (by decide +kernel)) | (replace e' : n' = 1 := e'.trans (by decide +kernel)) | (replace e' : n' = 2 := e'.trans (by decide +kernel)) | (replace e' : n' = 3 := e'.trans (by decide +kernel)) | (replace e' : n' = 4 := e'.trans (by decide +kernel)) | (replace e' : n' = 5 := e'.trans (by decide +kernel)) | (replace e' : n' = 6 := e'.trans (by decide +kernel)) | (replace e' : n' = 7 := e'.trans (by decide +kernel)) | (replace e' : n' = 8 := e'.trans (by decide +kernel)) | (replace e' : n' = 9 := e'.trans (by decide +kernel)) | (replace e' : n' = 10 := e'.trans (by decide +kernel)) | (replace e' : n' = 11 := e'.trans (by decide +kernel)) | (replace e' : n' = 12 := e'.trans (by decide +kernel))); subst e'; subst q1 q2; (try dsimp only)))
  k_with "call ref" => (k_here; (try refine (?_ : wpAny _ (PySem.Around.deeper _ _) _ _ _ _)); (with_reducible show wpAny _ _ (PySem.call (Value.ref 227) _ _) _ _ _); (try k_fold); k_dflt ((first | (refine' Ctr.use0 (c_tok0 _ _) ?R204.k1 ?R204.k2 ?R204.k3 ?R204.k4 ?R204.k5 ?R204.k6 ?R204.k7 ?R204.k8 ?_) | (refine' Ctr.use0 (c_tok1 _ _) ?R204.k1 ?R204.k2 ?R204.k3 ?R204.k4 ?R204.k5 ?R204.k6 ?R204.k7 ?R204.k8 ?_) | (refine' Ctr.use0 (c_tok2 _ _) ?R204.k1 ?R204.k2 ?R204.k3 ?R204.k4 ?R204.k5 ?R204.k6 ?R204.k7 ?R204.k8 ?_) | (refine' Ctr.use0 (c_tok3 _ _) ?R204.k1 ?R204.k2 ?R204.k3 ?R204.k4 ?R204.k5 ?R204.k6 ?R204.k7 ?R204.k8 ?_) | (refine' Ctr.use0 (c_tok4 _ _) ?R204.k1 ?R204.k2 ?R204.k3 ?R204.k4 ?R204.k5 ?R204.k6 ?R204.k7 ?R204.k8 ?_) | (refine' Ctr.use0 (c_tok5 _ _) ?R204.k1 ?R204.k2 ?R204.k3 ?R204.k4 ?R204.k5 ?R204.k6 ?R204.k7 ?R204.k8 ?_) | (refine' Ctr.use0 (c_tok6 _ _) ?R204.k1 ?R204.k2 ?R204.k3 ?R204.k4 ?R204.k5 ?R204.k6 ?R204.k7 ?R204.k8 ?_) | (refine' Ctr.use0 (c_tok7 _ _) ?R204.k1 ?R204.k2 ?R204.k3 ?R204.k4 ?R204.k5 ?R204.k6 ?R204.k7 ?R204.k8 ?_) | (refine' Ctr.use0 (c_tok8 _ _) ?R204.k1 ?R204.k2 ?R204.k3 ?R204.k4 ?R204.k5 ?R204.k6 ?R204.k7 ?R204.k8 ?_) | (refine' Ctr.use0 (c_tok9 _ _) ?R204.k1 ?R204.k2 ?R204.k3 ?R204.k4 ?R204.k5 ?R204.k6 ?R204.k7 ?R204.k8 ?_)); tb_start; intro v' nw' h' tk' F' N' q'; obtain ⟨P, L1, T1, te, t, t2, c, q1, q2, l1, l2, l3⟩ := q'; subst q1 q2; (replace l1 : @LT.lt Nat _ T1 L1 := l1); (replace l2 : @LT.lt Nat _ L1 P := l2); (try k_lt l3); (try dsimp only)))
  k_with "call ref" => (k_here; (try refine (?_ : wpAny _ (PySem.Around.deeper _ _) _ _ _ _)); (with_reducible show wpAny _ _ (PySem.call (Value.ref 227) _ _) _ _ _); (try k_fold); k_dflt ((refine' Ctr.use0 (c_tokD _ _) ?R205.k1 ?R205.k2 ?R205.k3 ?R205.k4 ?R205.k5 ?R205.k6 ?R205.k7 ?R205.k8 ?_); tb_start; intro v' nw' h' tk' F' N' q'; obtain ⟨P, L1, T1, T2, te, a, b, a2, b2, c, q1, q2, l1, l2, l3, l4⟩ := q'; subst q1 q2; (replace l1 : @LT.lt Nat _ T1 T2 := l1); (replace l2 : @LT.lt Nat _ T2 L1 := l2); (replace l3 : @LT.lt Nat _ L1 P := l3); (try k_lt l4); (try dsimp only)))
  k_steps
  refine' hret _ _ _ _ ?rF ?rN ?rP
  case rF => k_asm
  case rN => k_asm
  case rP => exact ⟨⟨_, _, _, _, _, _, _, _, rfl, by k_mem, by k_mem, by k_mem⟩, fun p hp => by repeat (first | exact hp | refine List.Mem.tail _ ?_)⟩

end
end Mine

end
section
open PySem PySem.W PyProof.Rows PySem.Calls
set_option Elab.async false
set_option linter.all false
set_option maxRecDepth 100000
set_option rowWalk.seconds 0
namespace Mine
section
variable {w : World} {mean : ExcName → Option Value} {mg mb : Str → Option Value} {news : Led}



set_option maxHeartbeats 4000000 in
theorem c_rowof0 (l : Addr) (c : Nat) (T0 : Addr) (a0 b0 : Tok) (T1 : Addr) (a1 b1 : Tok) : Ctr w mean mg mb 255 13 ((l, listOf #[.ref T0, .ref T1] c) :: (T0, tokObj (Str.ofString "word") (Str.ofString "PRINT") a0 b0) :: (T1, tokObj (Str.ofString "name") (Str.ofString "A") a1 b1) :: []) [.ref l] (fun v nw => OneTok (Str.ofString "PRINT A") v ∧ nw = (l, listOf #[.ref T0, .ref T1] c) :: (T0, tokObj (Str.ofString "word") (Str.ofString "PRINT") a0 b0) :: (T1, tokObj (Str.ofString "name") (Str.ofString "A") a1 b1) :: []) NoExc := by
  intro dp un gd cn cs a ccd cl outer A₀ base h₀ L m s Q E B F X N T hk hd' hu hret hexc
  refine wpAny_call ?_
  k_dflt cell_enter
  refine (let ak := _; (?_ : wpAny _ ak _ _ _ _))
  w_top off
  k_with_none
  k_with "execs cons" => ((try k_fold); refine wpAny_execs_cons ?_; refine (let sk := _; (?_ : wpAny _ _ _ _ _ sk)))
  k_with "eval Call" => (k_here; (with_reducible show wpAny _ _ (eval (Expr.Call (Expr.Name _ _) _ [] _) _) _ _ _); k_dflt (refine Call_ ?_))
  k_with "exec Raise some none" => (k_here; (refine' raise_B ?_ ?R207.hh); (case hh => k_dflt rfl))
  k_with "call ref" => (k_here; (try refine (?_ : wpAny _ (PySem.Around.deeper _ _) _ _ _ _)); (with_reducible show wpAny _ _ (PySem.call (Value.ref 34) _ _) _ _ _); refine' c_basic ?R208.b1 ?R208.b2 ?R208.b3 ?R208.b4 ?R208.b5 ?R208.b6 ?R208.b7 ?R208.b8 ?R208.b9 ?_; (case b1 => k_asm); (case b2 => k_asm); (case b3 => k_asm); (case b4 => k_asm); (case b5 => k_asm); (case b6 => rfl); (case b7 => rfl); (case b8 => first | rfl | assumption); (case b9 => ktr_room); intro e' dx' oD' ta' h' tk' F' N' d1' d2' d3')
  k_with "RaiseB" => (refine' ⟨_, _, _, rfl, ?R209.r1, ?R209.r2, ?_⟩; (case r1 => exact (News.get (by assumption) (.head _))); (case r2 => exact (Frag.In.keeps (by assumption) (Fr.keep (by assumption))) _ _ (by k_dflt k_is)))
  k_with "leaving ref" => (k_here; first
  | (refine' leave_newB ?R210.k1 ?R210.k2 ?R210.k3 ?R210.k4 ?R210.k5 ?R210.k6 ?_; (case k1 => assumption); (case k2 => assumption); (case k3 => assumption); (case k4 => assumption); (case k5 => assumption); (case k6 => assumption); k_whole; intro h' R' U'; (try dsimp only at R' U' ⊢))
  | (refine' leave_onB ?R210.k1 ?R210.k2 ?R210.k3 ?R210.k4 ?_; (case k3 => assumption); (case k1 => assumption); (case k4 => assumption); (case k2 => assumption); k_whole; intro h' R' U'; (try dsimp only at R' U' ⊢)))
  k_with "ite" => (k_here; first | (refine' iteT ?R211.h ?_; (case h => decide +kernel)) | (refine' iteF ?R211.h ?_; (case h => decide +kernel)))
  k_with "call builtin:str.find" => (k_here; k_dflt (refine c_find4 ?_))
  k_with "subscriptTail Name Name str int" => (k_here; k_dflt (refine item_str (by decide +kernel) (by decide +kernel) (by decide +kernel) ?_); intro _)
  k_with "call ref" => (k_here; (try refine (?_ : wpAny _ (PySem.Around.deeper _ _) _ _ _ _)); (with_reducible show wpAny _ _ (PySem.call (Value.ref 248) _ _) _ _ _); (try k_fold); k_dflt ((first | (refine' Ctr.use0 (c_nb0 _ _ _ _ _ _ ?R214.p1 ?R214.p2) ?R214.k1 ?R214.k2 ?R214.k3 ?R214.k4 ?R214.k5 ?R214.k6 ?R214.k7 ?R214.k8 ?_; tb_start; (case p1 => k_mem); (case p2 => k_mem)) | (refine' Ctr.use0 (c_nb1 _ _ _ _ _ _ ?R214.p1 ?R214.p2) ?R214.k1 ?R214.k2 ?R214.k3 ?R214.k4 ?R214.k5 ?R214.k6 ?R214.k7 ?R214.k8 ?_; tb_start; (case p1 => k_mem); (case p2 => k_mem)) | (refine' Ctr.use0 (c_nb2 _ _ _ _ _ _ ?R214.p1 ?R214.p2) ?R214.k1 ?R214.k2 ?R214.k3 ?R214.k4 ?R214.k5 ?R214.k6 ?R214.k7 ?R214.k8 ?_; tb_start; (case p1 => k_mem); (case p2 => k_mem)) | (refine' Ctr.use0 (c_nb3 _ _ _ _ _ _ ?R214.p1 ?R214.p2) ?R214.k1 ?R214.k2 ?R214.k3 ?R214.k4 ?R214.k5 ?R214.k6 ?R214.k7 ?R214.k8 ?_; tb_start; (case p1 => k_mem); (case p2 => k_mem)) | (refine' Ctr.use0 (c_nb4 _ _ _ _ _ _ ?R214.p1 ?R214.p2) ?R214.k1 ?R214.k2 ?R214.k3 ?R214.k4 ?R214.k5 ?R214.k6 ?R214.k7 ?R214.k8 ?_; tb_start; (case p1 => k_mem); (case p2 => k_mem)) | (refine' Ctr.use0 (c_nb5 _ _ _ _ _ _ ?R214.p1 ?R214.p2) ?R214.k1 ?R214.k2 ?R214.k3 ?R214.k4 ?R214.k5 ?R214.k6 ?R214.k7 ?R214.k8 ?_; tb_start; (case p1 => k_mem); (case p2 => k_mem))); intro v' nw' h' tk' F' N' q'; obtain ⟨q1, q2⟩ := q'; subst q1 q2; (try dsimp only)))
  k_with "call ref" => (k_here; (try refine (?_ : wpAny _ (PySem.Around.deeper _ _) _ _ _ _)); (with_reducible show wpAny _ _ (PySem.call (Value.ref 241) _ _) _ _ _); (try k_fold); k_dflt (refine' Ctr.use0 (c_token_text _ _ _ _ _ _ ?R215.p1 ?R215.p2 ?R215.p3) ?R215.k1 ?R215.k2 ?R215.k3 ?R215.k4 ?R215.k5 ?R215.k6 ?R215.k7 ?R215.k8 ?_; tb_start; (case p3 => k_mem); (case p2 => exact rfl); (case p1 => decide +kernel); intro v' nw' h' tk' F' N' q'; obtain ⟨tq, q1, q2⟩ := q'; (first | (replace q1 := q1.trans (congrArg (Value.str · _) (show tokText (Str.ofString "name") (Str.ofString "A") = Str.ofString "A" by decide +kernel))) | (replace q1 := q1.trans (congrArg (Value.str · _) (show tokText (Str.ofString "number") (Str.ofString "1") = Str.ofString "1" by decide +kernel))) | (replace q1 := q1.trans (congrArg (Value.str · _) (show tokText (Str.ofString "number") (Str.ofString "10") = Str.ofString "10" by decide +kernel))) | (replace q1 := q1.trans (congrArg (Value.str · _) (show tokText (Str.ofString "raw") (Str.ofString "1, 2") = Str.ofString "1, 2" by decide +kernel))) | (replace q1 := q1.trans (congrArg (Value.str · _) (show tokText (Str.ofString "rem") (Str.ofString "A  B") = Str.ofString "REM A  B" by decide +kernel))) | (replace q1 := q1.trans (congrArg (Value.str · _) (show tokText (Str.ofString "sign") (Str.ofString "=") = Str.ofString "=" by decide +kernel))) | (replace q1 := q1.trans (congrArg (Value.str · _) (show tokText (Str.ofString "text") (Str.ofString "X") = Str.ofString "\"X\"" by decide +kernel))) | (replace q1 := q1.trans (congrArg (Value.str · _) (show tokText (Str.ofString "word") (Str.ofString "DATA") = Str.ofString "DATA" by decide +kernel))) | (replace q1 := q1.trans (congrArg (Value.str · _) (show tokText (Str.ofString "word") (Str.ofString "GOTO") = Str.ofString "GOTO" by decide +kernel))) | (replace q1 := q1.trans (congrArg (Value.str · _) (show tokText (Str.ofString "word") (Str.ofString "PRINT") = Str.ofString "PRINT" by decide +kernel)))); (try dsimp only at q1); subst q1 q2; (try dsimp only)))
  k_with "exec For Tuple Call cons nil" => (k_here; (rename Fr _ _ _ _ => lF'); (with_unfolding_all refine' For_turns lF' ?_; k_whole))
  k_steps
  exact hret _ _ _ _ (by k_asm) (by k_asm) ⟨⟨_, rfl⟩, rfl⟩

set_option maxHeartbeats 4000000 in
theorem c_rowof1 (l : Addr) (c : Nat) (T0 : Addr) (a0 b0 : Tok) (T1 : Addr) (a1 b1 : Tok) : Ctr w mean mg mb 255 13 ((l, listOf #[.ref T0, .ref T1] c) :: (T0, tokObj (Str.ofString "word") (Str.ofString "GOTO") a0 b0) :: (T1, tokObj (Str.ofString "number") (Str.ofString "10") a1 b1) :: []) [.ref l] (fun v nw => OneTok (Str.ofString "GOTO 10") v ∧ nw = (l, listOf #[.ref T0, .ref T1] c) :: (T0, tokObj (Str.ofString "word") (Str.ofString "GOTO") a0 b0) :: (T1, tokObj (Str.ofString "number") (Str.ofString "10") a1 b1) :: []) NoExc := by
  intro dp un gd cn cs a ccd cl outer A₀ base h₀ L m s Q E B F X N T hk hd' hu hret hexc
  refine wpAny_call ?_
  k_dflt cell_enter
  refine (let ak := _; (?_ : wpAny _ ak _ _ _ _))
  w_top off
  k_with_none
  k_with "execs cons" => ((try k_fold); refine wpAny_execs_cons ?_; refine (let sk := _; (?_ : wpAny _ _ _ _ _ sk)))
  k_with "eval Call" => (k_here; (with_reducible show wpAny _ _ (eval (Expr.Call (Expr.Name _ _) _ [] _) _) _ _ _); k_dflt (refine Call_ ?_))
  k_with "exec Raise some none" => (k_here; (refine' raise_B ?_ ?R207.hh); (case hh => k_dflt rfl))
  k_with "call ref" => (k_here; (try refine (?_ : wpAny _ (PySem.Around.deeper _ _) _ _ _ _)); (with_reducible show wpAny _ _ (PySem.call (Value.ref 34) _ _) _ _ _); refine' c_basic ?R208.b1 ?R208.b2 ?R208.b3 ?R208.b4 ?R208.b5 ?R208.b6 ?R208.b7 ?R208.b8 ?R208.b9 ?_; (case b1 => k_asm); (case b2 => k_asm); (case b3 => k_asm); (case b4 => k_asm); (case b5 => k_asm); (case b6 => rfl); (case b7 => rfl); (case b8 => first | rfl | assumption); (case b9 => ktr_room); intro e' dx' oD' ta' h' tk' F' N' d1' d2' d3')
  k_with "RaiseB" => (refine' ⟨_, _, _, rfl, ?R209.r1, ?R209.r2, ?_⟩; (case r1 => exact (News.get (by assumption) (.head _))); (case r2 => exact (Frag.In.keeps (by assumption) (Fr.keep (by assumption))) _ _ (by k_dflt k_is)))
  k_with "leaving ref" => (k_here; first
  | (refine' leave_newB ?R210.k1 ?R210.k2 ?R210.k3 ?R210.k4 ?R210.k5 ?R210.k6 ?_; (case k1 => assumption); (case k2 => assumption); (case k3 => assumption); (case k4 => assumption); (case k5 => assumption); (case k6 => assumption); k_whole; intro h' R' U'; (try dsimp only at R' U' ⊢))
  | (refine' leave_onB ?R210.k1 ?R210.k2 ?R210.k3 ?R210.k4 ?_; (case k3 => assumption); (case k1 => assumption); (case k4 => assumption); (case k2 => assumption); k_whole; intro h' R' U'; (try dsimp only at R' U' ⊢)))
  k_with "ite" => (k_here; first | (refine' iteT ?R211.h ?_; (case h => decide +kernel)) | (refine' iteF ?R211.h ?_; (case h => decide +kernel)))
  k_with "call builtin:str.find" => (k_here; k_dflt (refine c_find4 ?_))
  k_with "subscriptTail Name Name str int" => (k_here; k_dflt (refine item_str (by decide +kernel) (by decide +kernel) (by decide +kernel) ?_); intro _)
  k_with "call ref" => (k_here; (try refine (?_ : wpAny _ (PySem.Around.deeper _ _) _ _ _ _)); (with_reducible show wpAny _ _ (PySem.call (Value.ref 248) _ _) _ _ _); (try k_fold); k_dflt ((first | (refine' Ctr.use0 (c_nb0 _ _ _ _ _ _ ?R214.p1 ?R214.p2) ?R214.k1 ?R214.k2 ?R214.k3 ?R214.k4 ?R214.k5 ?R214.k6 ?R214.k7 ?R214.k8 ?_; tb_start; (case p1 => k_mem); (case p2 => k_mem)) | (refine' Ctr.use0 (c_nb1 _ _ _ _ _ _ ?R214.p1 ?R214.p2) ?R214.k1 ?R214.k2 ?R214.k3 ?R214.k4 ?R214.k5 ?R214.k6 ?R214.k7 ?R214.k8 ?_; tb_start; (case p1 => k_mem); (case p2 => k_mem)) | (refine' Ctr.use0 (c_nb2 _ _ _ _ _ _ ?R214.p1 ?R214.p2) ?R214.k1 ?R214.k2 ?R214.k3 ?R214.k4 ?R214.k5 ?R214.k6 ?R214.k7 ?R214.k8 ?_; tb_start; (case p1 => k_mem); (case p2 => k_mem)) | (refine' Ctr.use0 (c_nb3 _ _ _ _ _ _ ?R214.p1 ?R214.p2) ?R214.k1 ?R214.k2 ?R214.k3 ?R214.k4 ?R214.k5 ?R214.k6 ?R214.k7 ?R214.k8 ?_; tb_start; (case p1 => k_mem); (case p2 => k_mem)) | (refine' Ctr.use0 (c_nb4 _ _ _ _ _ _ ?R214.p1 ?R214.p2) ?R214.k1 ?R214.k2 ?R214.k3 ?R214.k4 ?R214.k5 ?R214.k6 ?R214.k7 ?R214.k8 ?_; tb_start; (case p1 => k_mem); (case p2 => k_mem)) | (refine' Ctr.use0 (c_nb5 _ _ _ _ _ _ ?R214.p1 ?R214.p2) ?R214.k1 ?R214.k2 ?R214.k3 ?R214.k4 ?R214.k5 ?R214.k6 ?R214.k7 ?R214.k8 ?_; tb_start; (case p1 => k_mem); (case p2 => k_mem))); intro v' nw' h' tk' F' N' q'; obtain ⟨q1, q2⟩ := q'; subst q1 q2; (try dsimp only)))
  k_with "call ref" => (k_here; (try refine (?_ : wpAny _ (PySem.Around.deeper _ _) _ _ _ _)); (with_reducible show wpAny _ _ (PySem.call (Value.ref 241) _ _) _ _ _); (try k_fold); k_dflt (refine' Ctr.use0 (c_token_text _ _ _ _ _ _ ?R215.p1 ?R215.p2 ?R215.p3) ?R215.k1 ?R215.k2 ?R215.k3 ?R215.k4 ?R215.k5 ?R215.k6 ?R215.k7 ?R215.k8 ?_; tb_start; (case p3 => k_mem); (case p2 => exact rfl); (case p1 => decide +kernel); intro v' nw' h' tk' F' N' q'; obtain ⟨tq, q1, q2⟩ := q'; (first | (replace q1 := q1.trans (congrArg (Value.str · _) (show tokText (Str.ofString "name") (Str.ofString "A") = Str.ofString "A" by decide +kernel))) | (replace q1 := q1.trans (congrArg (Value.str · _) (show tokText (Str.ofString "number") (Str.ofString "1") = Str.ofString "1" by decide +kernel))) | (replace q1 := q1.trans (congrArg (Value.str · _) (show tokText (Str.ofString "number") (Str.ofString "10") = Str.ofString "10" by decide +kernel))) | (replace q1 := q1.trans (congrArg (Value.str · _) (show tokText (Str.ofString "raw") (Str.ofString "1, 2") = Str.ofString "1, 2" by decide +kernel))) | (replace q1 := q1.trans (congrArg (Value.str · _) (show tokText (Str.ofString "rem") (Str.ofString "A  B") = Str.ofString "REM A  B" by decide +kernel))) | (replace q1 := q1.trans (congrArg (Value.str · _) (show tokText (Str.ofString "sign") (Str.ofString "=") = Str.ofString "=" by decide +kernel))) | (replace q1 := q1.trans (congrArg (Value.str · _) (show tokText (Str.ofString "text") (Str.ofString "X") = Str.ofString "\"X\"" by decide +kernel))) | (replace q1 := q1.trans (congrArg (Value.str · _) (show tokText (Str.ofString "word") (Str.ofString "DATA") = Str.ofString "DATA" by decide +kernel))) | (replace q1 := q1.trans (congrArg (Value.str · _) (show tokText (Str.ofString "word") (Str.ofString "GOTO") = Str.ofString "GOTO" by decide +kernel))) | (replace q1 := q1.trans (congrArg (Value.str · _) (show tokText (Str.ofString "word") (Str.ofString "PRINT") = Str.ofString "PRINT" by decide +kernel)))); (try dsimp only at q1); subst q1 q2; (try dsimp only)))
  k_with "exec For Tuple Call cons nil" => (k_here; (rename Fr _ _ _ _ => lF'); (with_unfolding_all refine' For_turns lF' ?_; k_whole))
  k_steps
  exact hret _ _ _ _ (by k_asm) (by k_asm) ⟨⟨_, rfl⟩, rfl⟩

set_option maxHeartbeats 4000000 in
theorem c_rowof2 (l : Addr) (c : Nat) (T0 : Addr) (a0 b0 : Tok) : Ctr w mean mg mb 255 13 ((l, listOf #[.ref T0] c) :: (T0, tokObj (Str.ofString "rem") (Str.ofString "A  B") a0 b0) :: []) [.ref l] (fun v nw => OneTok (Str.ofString "REM A  B") v ∧ nw = (l, listOf #[.ref T0] c) :: (T0, tokObj (Str.ofString "rem") (Str.ofString "A  B") a0 b0) :: []) NoExc := by
  intro dp un gd cn cs a ccd cl outer A₀ base h₀ L m s Q E B F X N T hk hd' hu hret hexc
  refine wpAny_call ?_
  k_dflt cell_enter
  refine (let ak := _; (?_ : wpAny _ ak _ _ _ _))
  w_top off
  k_with_none
  k_with "execs cons" => ((try k_fold); refine wpAny_execs_cons ?_; refine (let sk := _; (?_ : wpAny _ _ _ _ _ sk)))
  k_with "eval Call" => (k_here; (with_reducible show wpAny _ _ (eval (Expr.Call (Expr.Name _ _) _ [] _) _) _ _ _); k_dflt (refine Call_ ?_))
  k_with "exec Raise some none" => (k_here; (refine' raise_B ?_ ?R207.hh); (case hh => k_dflt rfl))
  k_with "call ref" => (k_here; (try refine (?_ : wpAny _ (PySem.Around.deeper _ _) _ _ _ _)); (with_reducible show wpAny _ _ (PySem.call (Value.ref 34) _ _) _ _ _); refine' c_basic ?R208.b1 ?R208.b2 ?R208.b3 ?R208.b4 ?R208.b5 ?R208.b6 ?R208.b7 ?R208.b8 ?R208.b9 ?_; (case b1 => k_asm); (case b2 => k_asm); (case b3 => k_asm); (case b4 => k_asm); (case b5 => k_asm); (case b6 => rfl); (case b7 => rfl); (case b8 => first | rfl | assumption); (case b9 => ktr_room); intro e' dx' oD' ta' h' tk' F' N' d1' d2' d3')
  k_with "RaiseB" => (refine' ⟨_, _, _, rfl, ?R209.r1, ?R209.r2, ?_⟩; (case r1 => exact (News.get (by assumption) (.head _))); (case r2 => exact (Frag.In.keeps (by assumption) (Fr.keep (by assumption))) _ _ (by k_dflt k_is)))
  k_with "leaving ref" => (k_here; first
  | (refine' leave_newB ?R210.k1 ?R210.k2 ?R210.k3 ?R210.k4 ?R210.k5 ?R210.k6 ?_; (case k1 => assumption); (case k2 => assumption); (case k3 => assumption); (case k4 => assumption); (case k5 => assumption); (case k6 => assumption); k_whole; intro h' R' U'; (try dsimp only at R' U' ⊢))
  | (refine' leave_onB ?R210.k1 ?R210.k2 ?R210.k3 ?R210.k4 ?_; (case k3 => assumption); (case k1 => assumption); (case k4 => assumption); (case k2 => assumption); k_whole; intro h' R' U'; (try dsimp only at R' U' ⊢)))
  k_with "ite" => (k_here; first | (refine' iteT ?R211.h ?_; (case h => decide +kernel)) | (refine' iteF ?R211.h ?_; (case h => decide +kernel)))
  k_with "call builtin:str.find" => (k_here; k_dflt (refine c_find4 ?_))
  k_with "subscriptTail Name Name str int" => (k_here; k_dflt (refine item_str (by decide +kernel) (by decide +kernel) (by decide +kernel) ?_); intro _)
  k_with "call ref" => (k_here; (try refine (?_ : wpAny _ (PySem.Around.deeper _ _) _ _ _ _)); (with_reducible show wpAny _ _ (PySem.call (Value.ref 248) _ _) _ _ _); (try k_fold); k_dflt ((first | (refine' Ctr.use0 (c_nb0 _ _ _ _ _ _ ?R214.p1 ?R214.p2) ?R214.k1 ?R214.k2 ?R214.k3 ?R214.k4 ?R214.k5 ?R214.k6 ?R214.k7 ?R214.k8 ?_; tb_start; (case p1 => k_mem); (case p2 => k_mem)) | (refine' Ctr.use0 (c_nb1 _ _ _ _ _ _ ?R214.p1 ?R214.p2) ?R214.k1 ?R214.k2 ?R214.k3 ?R214.k4 ?R214.k5 ?R214.k6 ?R214.k7 ?R214.k8 ?_; tb_start; (case p1 => k_mem); (case p2 => k_mem)) | (refine' Ctr.use0 (c_nb2 _ _ _ _ _ _ ?R214.p1 ?R214.p2) ?R214.k1 ?R214.k2 ?R214.k3 ?R214.k4 ?R214.k5 ?R214.k6 ?R214.k7 ?R214.k8 ?_; tb_start; (case p1 => k_mem); (case p2 => k_mem)) | (refine' Ctr.use0 (c_nb3 _ _ _ _ _ _ ?R214.p1 ?R214.p2) ?R214.k1 ?R214.k2 ?R214.k3 ?R214.k4 ?R214.k5 ?R214.k6 ?R214.k7 ?R214.k8 ?_; tb_start; (case p1 => k_mem); (case p2 => k_mem)) | (refine' Ctr.use0 (c_nb4 _ _ _ _ _ _ ?R214.p1 ?R214.p2) ?R214.k1 ?R214.k2 ?R214.k3 ?R214.k4 ?R214.k5 ?R214.k6 ?R214.k7 ?R214.k8 ?_; tb_start; (case p1 => k_mem); (case p2 => k_mem)) | (refine' Ctr.use0 (c_nb5 _ _ _ _ _ _ ?R214.p1 ?R214.p2) ?R214.k1 ?R214.k2 ?R214.k3 ?R214.k4 ?R214.k5 ?R214.k6 ?R214.k7 ?R214.k8 ?_; tb_start; (case p1 => k_mem); (case p2 => k_mem))); intro v' nw' h' tk' F' N' q'; obtain ⟨q1, q2⟩ := q'; subst q1 q2; (try dsimp only)))
  k_with "call ref" => (k_here; (try refine (?_ : wpAny _ (PySem.Around.deeper _ _) _ _ _ _)); (with_reducible show wpAny _ _ (PySem.call (Value.ref 241) _ _) _ _ _); (try k_fold); k_dflt (refine' Ctr.use0 (c_token_text _ _ _ _ _ _ ?R215.p1 ?R215.p2 ?R215.p3) ?R215.k1 ?R215.k2 ?R215.k3 ?R215.k4 ?R215.k5 ?R215.k6 ?R215.k7 ?R215.k8 ?_; tb_start; (case p3 => k_mem); (case p2 => exact rfl); (case p1 => decide +kernel); intro v' nw' h' tk' F' N' q'; obtain ⟨tq, q1, q2⟩ := q'; (first | (replace q1 := q1.trans (congrArg (Value.str · _) (show tokText (Str.ofString "name") (Str.ofString "A") = Str.ofString "A" by decide +kernel))) | (replace q1 := q1.trans (congrArg (Value.str · _) (show tokText (Str.ofString "number") (Str.ofString "1") = Str.ofString "1" by decide +kernel))) | (replace q1 := q1.trans (congrArg (Value.str · _) (show tokText (Str.ofString "number") (Str.ofString "10") = Str.ofString "10" by decide +kernel))) | (replace q1 := q1.trans (congrArg (Value.str · _) (show tokText (Str.ofString "raw") (Str.ofString "1, 2") = Str.ofString "1, 2" by decide +kernel))) | (replace q1 := q1.trans (congrArg (Value.str · _) (show tokText (Str.ofString "rem") (Str.ofString "A  B") = Str.ofString "REM A  B" by decide +kernel))) | (replace q1 := q1.trans (congrArg (Value.str · _) (show tokText (Str.ofString "sign") (Str.ofString "=") = Str.ofString "=" by decide +kernel))) | (replace q1 := q1.trans (congrArg (Value.str · _) (show tokText (Str.ofString "text") (Str.ofString "X") = Str.ofString "\"X\"" by decide +kernel))) | (replace q1 := q1.trans (congrArg (Value.str · _) (show tokText (Str.ofString "word") (Str.ofString "DATA") = Str.ofString "DATA" by decide +kernel))) | (replace q1 := q1.trans (congrArg (Value.str · _) (show tokText (Str.ofString "word") (Str.ofString "GOTO") = Str.ofString "GOTO" by decide +kernel))) | (replace q1 := q1.trans (congrArg (Value.str · _) (show tokText (Str.ofString "word") (Str.ofString "PRINT") = Str.ofString "PRINT" by decide +kernel)))); (try dsimp only at q1); subst q1 q2; (try dsimp only)))
  k_with "exec For Tuple Call cons nil" => (k_here; (rename Fr _ _ _ _ => lF'); (with_unfolding_all refine' For_turns lF' ?_; k_whole))
  k_steps
  exact hret _ _ _ _ (by k_asm) (by k_asm) ⟨⟨_, rfl⟩, rfl⟩

set_option maxHeartbeats 4000000 in
theorem c_rowof3 (l : Addr) (c : Nat) (T0 : Addr) (a0 b0 : Tok) (T1 : Addr) (a1 b1 : Tok) (T2 : Addr) (a2 b2 : Tok) : Ctr w mean mg mb 255 13 ((l, listOf #[.ref T0, .ref T1, .ref T2] c) :: (T0, tokObj (Str.ofString "name") (Str.ofString "A") a0 b0) :: (T1, tokObj (Str.ofString "sign") (Str.ofString "=") a1 b1) :: (T2, tokObj (Str.ofString "number") (Str.ofString "1") a2 b2) :: []) [.ref l] (fun v nw => OneTok (Str.ofString "A=1") v ∧ nw = (l, listOf #[.ref T0, .ref T1, .ref T2] c) :: (T0, tokObj (Str.ofString "name") (Str.ofString "A") a0 b0) :: (T1, tokObj (Str.ofString "sign") (Str.ofString "=") a1 b1) :: (T2, tokObj (Str.ofString "number") (Str.ofString "1") a2 b2) :: []) NoExc := by
  intro dp un gd cn cs a ccd cl outer A₀ base h₀ L m s Q E B F X N T hk hd' hu hret hexc
  refine wpAny_call ?_
  k_dflt cell_enter
  refine (let ak := _; (?_ : wpAny _ ak _ _ _ _))
  w_top off
  k_with_none
  k_with "execs cons" => ((try k_fold); refine wpAny_execs_cons ?_; refine (let sk := _; (?_ : wpAny _ _ _ _ _ sk)))
  k_with "eval Call" => (k_here; (with_reducible show wpAny _ _ (eval (Expr.Call (Expr.Name _ _) _ [] _) _) _ _ _); k_dflt (refine Call_ ?_))
  k_with "exec Raise some none" => (k_here; (refine' raise_B ?_ ?R207.hh); (case hh => k_dflt rfl))
  k_with "call ref" => (k_here; (try refine (?_ : wpAny _ (PySem.Around.deeper _ _) _ _ _ _)); (with_reducible show wpAny _ _ (PySem.call (Value.ref 34) _ _) _ _ _); refine' c_basic ?R208.b1 ?R208.b2 ?R208.b3 ?R208.b4 ?R208.b5 ?R208.b6 ?R208.b7 ?R208.b8 ?R208.b9 ?_; (case b1 => k_asm); (case b2 => k_asm); (case b3 => k_asm); (case b4 => k_asm); (case b5 => k_asm); (case b6 => rfl); (case b7 => rfl); (case b8 => first | rfl | assumption); (case b9 => ktr_room); intro e' dx' oD' ta' h' tk' F' N' d1' d2' d3')
  k_with "RaiseB" => (refine' ⟨_, _, _, rfl, ?R209.r1, ?R209.r2, ?_⟩; (case r1 => exact (News.get (by assumption) (.head _))); (case r2 => exact (Frag.In.keeps (by assumption) (Fr.keep (by assumption))) _ _ (by k_dflt k_is)))
  k_with "leaving ref" => (k_here; first
  | (refine' leave_newB ?R210.k1 ?R210.k2 ?R210.k3 ?R210.k4 ?R210.k5 ?R210.k6 ?_; (case k1 => assumption); (case k2 => assumption); (case k3 => assumption); (case k4 => assumption); (case k5 => assumption); (case k6 => assumption); k_whole; intro h' R' U'; (try dsimp only at R' U' ⊢))
  | (refine' leave_onB ?R210.k1 ?R210.k2 ?R210.k3 ?R210.k4 ?_; (case k3 => assumption); (case k1 => assumption); (case k4 => assumption); (case k2 => assumption); k_whole; intro h' R' U'; (try dsimp only at R' U' ⊢)))
  k_with "ite" => (k_here; first | (refine' iteT ?R211.h ?_; (case h => decide +kernel)) | (refine' iteF ?R211.h ?_; (case h => decide +kernel)))
  k_with "call builtin:str.find" => (k_here; k_dflt (refine c_find4 ?_))
  k_with "subscriptTail Name Name str int" => (k_here; k_dflt (refine item_str (by decide +kernel) (by decide +kernel) (by decide +kernel) ?_); intro _)
  k_with "call ref" => (k_here; (try refine (?_ : wpAny _ (PySem.Around.deeper _ _) _ _ _ _)); (with_reducible show wpAny _ _ (PySem.call (Value.ref 248) _ _) _ _ _); (try k_fold); k_dflt ((first | (refine' Ctr.use0 (c_nb0 _ _ _ _ _ _ ?R214.p1 ?R214.p2) ?R214.k1 ?R214.k2 ?R214.k3 ?R214.k4 ?R214.k5 ?R214.k6 ?R214.k7 ?R214.k8 ?_; tb_start; (case p1 => k_mem); (case p2 => k_mem)) | (refine' Ctr.use0 (c_nb1 _ _ _ _ _ _ ?R214.p1 ?R214.p2) ?R214.k1 ?R214.k2 ?R214.k3 ?R214.k4 ?R214.k5 ?R214.k6 ?R214.k7 ?R214.k8 ?_; tb_start; (case p1 => k_mem); (case p2 => k_mem)) | (refine' Ctr.use0 (c_nb2 _ _ _ _ _ _ ?R214.p1 ?R214.p2) ?R214.k1 ?R214.k2 ?R214.k3 ?R214.k4 ?R214.k5 ?R214.k6 ?R214.k7 ?R214.k8 ?_; tb_start; (case p1 => k_mem); (case p2 => k_mem)) | (refine' Ctr.use0 (c_nb3 _ _ _ _ _ _ ?R214.p1 ?R214.p2) ?R214.k1 ?R214.k2 ?R214.k3 ?R214.k4 ?R214.k5 ?R214.k6 ?R214.k7 ?R214.k8 ?_; tb_start; (case p1 => k_mem); (case p2 => k_mem)) | (refine' Ctr.use0 (c_nb4 _ _ _ _ _ _ ?R214.p1 ?R214.p2) ?R214.k1 ?R214.k2 ?R214.k3 ?R214.k4 ?R214.k5 ?R214.k6 ?R214.k7 ?R214.k8 ?_; tb_start; (case p1 => k_mem); (case p2 => k_mem)) | (refine' Ctr.use0 (c_nb5 _ _ _ _ _ _ ?R214.p1 ?R214.p2) ?R214.k1 ?R214.k2 ?R214.k3 ?R214.k4 ?R214.k5 ?R214.k6 ?R214.k7 ?R214.k8 ?_; tb_start; (case p1 => k_mem); (case p2 => k_mem))); intro v' nw' h' tk' F' N' q'; obtain ⟨q1, q2⟩ := q'; subst q1 q2; (try dsimp only)))
  k_with "call ref" => (k_here; (try refine (?_ : wpAny _ (PySem.Around.deeper _ _) _ _ _ _)); (with_reducible show wpAny _ _ (PySem.call (Value.ref 241) _ _) _ _ _); (try k_fold); k_dflt (refine' Ctr.use0 (c_token_text _ _ _ _ _ _ ?R215.p1 ?R215.p2 ?R215.p3) ?R215.k1 ?R215.k2 ?R215.k3 ?R215.k4 ?R215.k5 ?R215.k6 ?R215.k7 ?R215.k8 ?_; tb_start; (case p3 => k_mem); (case p2 => exact rfl); (case p1 => decide +kernel); intro v' nw' h' tk' F' N' q'; obtain ⟨tq, q1, q2⟩ := q'; (first | (replace q1 := q1.trans (congrArg (Value.str · _) (show tokText (Str.ofString "name") (Str.ofString "A") = Str.ofString "A" by decide +kernel))) | (replace q1 := q1.trans (congrArg (Value.str · _) (show tokText (Str.ofString "number") (Str.ofString "1") = Str.ofString "1" by decide +kernel))) | (replace q1 := q1.trans (congrArg (Value.str · _) (show tokText (Str.ofString "number") (Str.ofString "10") = Str.ofString "10" by decide +kernel))) | (replace q1 := q1.trans (congrArg (Value.str · _) (show tokText (Str.ofString "raw") (Str.ofString "1, 2") = Str.ofString "1, 2" by decide +kernel))) | (replace q1 := q1.trans (congrArg (Value.str · _) (show tokText (Str.ofString "rem") (Str.ofString "A  B") = Str.ofString "REM A  B" by decide +kernel))) | (replace q1 := q1.trans (congrArg (Value.str · _) (show tokText (Str.ofString "sign") (Str.ofString "=") = Str.ofString "=" by decide +kernel))) | (replace q1 := q1.trans (congrArg (Value.str · _) (show tokText (Str.ofString "text") (Str.ofString "X") = Str.ofString "\"X\"" by decide +kernel))) | (replace q1 := q1.trans (congrArg (Value.str · _) (show tokText (Str.ofString "word") (Str.ofString "DATA") = Str.ofString "DATA" by decide +kernel))) | (replace q1 := q1.trans (congrArg (Value.str · _) (show tokText (Str.ofString "word") (Str.ofString "GOTO") = Str.ofString "GOTO" by decide +kernel))) | (replace q1 := q1.trans (congrArg (Value.str · _) (show tokText (Str.ofString "word") (Str.ofString "PRINT") = Str.ofString "PRINT" by decide +kernel)))); (try dsimp only at q1); subst q1 q2; (try dsimp only)))
  k_with "exec For Tuple Call cons nil" => (k_here; (rename Fr _ _ _ _ => lF'); (with_unfolding_all refine' For_turns lF' ?_; k_whole))
  k_steps
  exact hret _ _ _ _ (by k_asm) (by k_asm) ⟨⟨_, rfl⟩, rfl⟩

set_option maxHeartbeats 4000000 in
theorem c_rowof4 (l : Addr) (c : Nat) (T0 : Addr) (a0 b0 : Tok) (T1 : Addr) (a1 b1 : Tok) : Ctr w mean mg mb 255 13 ((l, listOf #[.ref T0, .ref T1] c) :: (T0, tokObj (Str.ofString "word") (Str.ofString "PRINT") a0 b0) :: (T1, tokObj (Str.ofString "text") (Str.ofString "X") a1 b1) :: []) [.ref l] (fun v nw => OneTok (Str.ofString "PRINT \"X\"") v ∧ nw = (l, listOf #[.ref T0, .ref T1] c) :: (T0, tokObj (Str.ofString "word") (Str.ofString "PRINT") a0 b0) :: (T1, tokObj (Str.ofString "text") (Str.ofString "X") a1 b1) :: []) NoExc := by
  intro dp un gd cn cs a ccd cl outer A₀ base h₀ L m s Q E B F X N T hk hd' hu hret hexc
  refine wpAny_call ?_
  k_dflt cell_enter
  refine (let ak := _; (?_ : wpAny _ ak _ _ _ _))
  w_top off
  k_with_none
  k_with "execs cons" => ((try k_fold); refine wpAny_execs_cons ?_; refine (let sk := _; (?_ : wpAny _ _ _ _ _ sk)))
  k_with "eval Call" => (k_here; (with_reducible show wpAny _ _ (eval (Expr.Call (Expr.Name _ _) _ [] _) _) _ _ _); k_dflt (refine Call_ ?_))
  k_with "exec Raise some none" => (k_here; (refine' raise_B ?_ ?R207.hh); (case hh => k_dflt rfl))
  k_with "call ref" => (k_here; (try refine (?_ : wpAny _ (PySem.Around.deeper _ _) _ _ _ _)); (with_reducible show wpAny _ _ (PySem.call (Value.ref 34) _ _) _ _ _); refine' c_basic ?R208.b1 ?R208.b2 ?R208.b3 ?R208.b4 ?R208.b5 ?R208.b6 ?R208.b7 ?R208.b8 ?R208.b9 ?_; (case b1 => k_asm); (case b2 => k_asm); (case b3 => k_asm); (case b4 => k_asm); (case b5 => k_asm); (case b6 => rfl); (case b7 => rfl); (case b8 => first | rfl | assumption); (case b9 => ktr_room); intro e' dx' oD' ta' h' tk' F' N' d1' d2' d3')
  k_with "RaiseB" => (refine' ⟨_, _, _, rfl, ?R209.r1, ?R209.r2, ?_⟩; (case r1 => exact (News.get (by assumption) (.head _))); (case r2 => exact (Frag.In.keeps (by assumption) (Fr.keep (by assumption))) _ _ (by k_dflt k_is)))
  k_with "leaving ref" => (k_here; first
  | (refine' leave_newB ?R210.k1 ?R210.k2 ?R210.k3 ?R210.k4 ?R210.k5 ?R210.k6 ?_; (case k1 => assumption); (case k2 => assumption); (case k3 => assumption); (case k4 => assumption); (case k5 => assumption); (case k6 => assumption); k_whole; intro h' R' U'; (try dsimp only at R' U' ⊢))
  | (refine' leave_onB ?R210.k1 ?R210.k2 ?R210.k3 ?R210.k4 ?_; (case k3 => assumption); (case k1 => assumption); (case k4 => assumption); (case k2 => assumption); k_whole; intro h' R' U'; (try dsimp only at R' U' ⊢)))
  k_with "ite" => (k_here; first | (refine' iteT ?R211.h ?_; (case h => decide +kernel)) | (refine' iteF ?R211.h ?_; (case h => decide +kernel)))
  k_with "call builtin:str.find" => (k_here; k_dflt (refine c_find4 ?_))
  k_with "subscriptTail Name Name str int" => (k_here; k_dflt (refine item_str (by decide +kernel) (by decide +kernel) (by decide +kernel) ?_); intro _)
  k_with "call ref" => (k_here; (try refine (?_ : wpAny _ (PySem.Around.deeper _ _) _ _ _ _)); (with_reducible show wpAny _ _ (PySem.call (Value.ref 248) _ _) _ _ _); (try k_fold); k_dflt ((first | (refine' Ctr.use0 (c_nb0 _ _ _ _ _ _ ?R214.p1 ?R214.p2) ?R214.k1 ?R214.k2 ?R214.k3 ?R214.k4 ?R214.k5 ?R214.k6 ?R214.k7 ?R214.k8 ?_; tb_start; (case p1 => k_mem); (case p2 => k_mem)) | (refine' Ctr.use0 (c_nb1 _ _ _ _ _ _ ?R214.p1 ?R214.p2) ?R214.k1 ?R214.k2 ?R214.k3 ?R214.k4 ?R214.k5 ?R214.k6 ?R214.k7 ?R214.k8 ?_; tb_start; (case p1 => k_mem); (case p2 => k_mem)) | (refine' Ctr.use0 (c_nb2 _ _ _ _ _ _ ?R214.p1 ?R214.p2) ?R214.k1 ?R214.k2 ?R214.k3 ?R214.k4 ?R214.k5 ?R214.k6 ?R214.k7 ?R214.k8 ?_; tb_start; (case p1 => k_mem); (case p2 => k_mem)) | (refine' Ctr.use0 (c_nb3 _ _ _ _ _ _ ?R214.p1 ?R214.p2) ?R214.k1 ?R214.k2 ?R214.k3 ?R214.k4 ?R214.k5 ?R214.k6 ?R214.k7 ?R214.k8 ?_; tb_start; (case p1 => k_mem); (case p2 => k_mem)) | (refine' Ctr.use0 (c_nb4 _ _ _ _ _ _ ?R214.p1 ?R214.p2) ?R214.k1 ?R214.k2 ?R214.k3 ?R214.k4 ?R214.k5 ?R214.k6 ?R214.k7 ?R214.k8 ?_; tb_start; (case p1 => k_mem); (case p2 => k_mem)) | (refine' Ctr.use0 (c_nb5 _ _ _ _ _ _ ?R214.p1 ?R214.p2) ?R214.k1 ?R214.k2 ?R214.k3 ?R214.k4 ?R214.k5 ?R214.k6 ?R214.k7 ?R214.k8 ?_; tb_start; (case p1 => k_mem); (case p2 => k_mem))); intro v' nw' h' tk' F' N' q'; obtain ⟨q1, q2⟩ := q'; subst q1 q2; (try dsimp only)))
  k_with "call ref" => (k_here; (try refine (?_ : wpAny _ (PySem.Around.deeper _ _) _ _ _ _)); (with_reducible show wpAny _ _ (PySem.call (Value.ref 241) _ _) _ _ _); (try k_fold); k_dflt (refine' Ctr.use0 (c_token_text _ _ _ _ _ _ ?R215.p1 ?R215.p2 ?R215.p3) ?R215.k1 ?R215.k2 ?R215.k3 ?R215.k4 ?R215.k5 ?R215.k6 ?R215.k7 ?R215.k8 ?_; tb_start; (case p3 => k_mem); (case p2 => exact rfl); (case p1 => decide +kernel); intro v' nw' h' tk' F' N' q'; obtain ⟨tq, q1, q2⟩ := q'; (first | (replace q1 := q1.trans (congrArg (Value.str · _) (show tokText (Str.ofString "name") (Str.ofString "A") = Str.ofString "A" by decide +kernel))) | (replace q1 := q1.trans (congrArg (Value.str · _) (show tokText (Str.ofString "number") (Str.ofString "1") = Str.ofString "1" by decide +kernel))) | (replace q1 := q1.trans (congrArg (Value.str · _) (show tokText (Str.ofString "number") (Str.ofString "10") = Str.ofString "10" by decide +kernel))) | (replace q1 := q1.trans (congrArg (Value.str · _) (show tokText (Str.ofString "raw") (Str.ofString "1, 2") = Str.ofString "1, 2" by decide +kernel))) | (replace q1 := q1.trans (congrArg (Value.str · _) (show tokText (Str.ofString "rem") (Str.ofString "A  B") = Str.ofString "REM A  B" by decide +kernel))) | (replace q1 := q1.trans (congrArg (Value.str · _) (show tokText (Str.ofString "sign") (Str.ofString "=") = Str.ofString "=" by decide +kernel))) | (replace q1 := q1.trans (congrArg (Value.str · _) (show tokText (Str.ofString "text") (Str.ofString "X") = Str.ofString "\"X\"" by decide +kernel))) | (replace q1 := q1.trans (congrArg (Value.str · _) (show tokText (Str.ofString "word") (Str.ofString "DATA") = Str.ofString "DATA" by decide +kernel))) | (replace q1 := q1.trans (congrArg (Value.str · _) (show tokText (Str.ofString "word") (Str.ofString "GOTO") = Str.ofString "GOTO" by decide +kernel))) | (replace q1 := q1.trans (congrArg (Value.str · _) (show tokText (Str.ofString "word") (Str.ofString "PRINT") = Str.ofString "PRINT" by decide +kernel)))); (try dsimp only at q1); subst q1 q2; (try dsimp only)))
  k_with "exec For Tuple Call cons nil" => (k_here; (rename Fr _ _ _ _ => lF'); (with_unfolding_all refine' For_turns lF' ?_; k_whole))
  k_steps
  exact hret _ _ _ _ (by k_asm) (by k_asm) ⟨⟨_, rfl⟩, rfl⟩

set_option maxHeartbeats 4000000 in
theorem c_rowof5 (l : Addr) (c : Nat) (T0 : Addr) (a0 b0 : Tok) (T1 : Addr) (a1 b1 : Tok) : Ctr w mean mg mb 255 13 ((l, listOf #[.ref T0, .ref T1] c) :: (T0, tokObj (Str.ofString "word") (Str.ofString "DATA") a0 b0) :: (T1, tokObj (Str.ofString "raw") (Str.ofString "1, 2") a1 b1) :: []) [.ref l] (fun v nw => OneTok (Str.ofString "DATA 1, 2") v ∧ nw = (l, listOf #[.ref T0, .ref T1] c) :: (T0, tokObj (Str.ofString "word") (Str.ofString "DATA") a0 b0) :: (T1, tokObj (Str.ofString "raw") (Str.ofString "1, 2") a1 b1) :: []) NoExc := by
  intro dp un gd cn cs a ccd cl outer A₀ base h₀ L m s Q E B F X N T hk hd' hu hret hexc
  refine wpAny_call ?_
  k_dflt cell_enter
  refine (let ak := _; (?_ : wpAny _ ak _ _ _ _))
  w_top off
  k_with_none
  k_with "execs cons" => ((try k_fold); refine wpAny_execs_cons ?_; refine (let sk := _; (?_ : wpAny _ _ _ _ _ sk)))
  k_with "eval Call" => (k_here; (with_reducible show wpAny _ _ (eval (Expr.Call (Expr.Name _ _) _ [] _) _) _ _ _); k_dflt (refine Call_ ?_))
  k_with "exec Raise some none" => (k_here; (refine' raise_B ?_ ?R207.hh); (case hh => k_dflt rfl))
  k_with "call ref" => (k_here; (try refine (?_ : wpAny _ (PySem.Around.deeper _ _) _ _ _ _)); (with_reducible show wpAny _ _ (PySem.call (Value.ref 34) _ _) _ _ _); refine' c_basic ?R208.b1 ?R208.b2 ?R208.b3 ?R208.b4 ?R208.b5 ?R208.b6 ?R208.b7 ?R208.b8 ?R208.b9 ?_; (case b1 => k_asm); (case b2 => k_asm); (case b3 => k_asm); (case b4 => k_asm); (case b5 => k_asm); (case b6 => rfl); (case b7 => rfl); (case b8 => first | rfl | assumption); (case b9 => ktr_room); intro e' dx' oD' ta' h' tk' F' N' d1' d2' d3')
  k_with "RaiseB" => (refine' ⟨_, _, _, rfl, ?R209.r1, ?R209.r2, ?_⟩; (case r1 => exact (News.get (by assumption) (.head _))); (case r2 => exact (Frag.In.keeps (by assumption) (Fr.keep (by assumption))) _ _ (by k_dflt k_is)))
  k_with "leaving ref" => (k_here; first
  | (refine' leave_newB ?R210.k1 ?R210.k2 ?R210.k3 ?R210.k4 ?R210.k5 ?R210.k6 ?_; (case k1 => assumption); (case k2 => assumption); (case k3 => assumption); (case k4 => assumption); (case k5 => assumption); (case k6 => assumption); k_whole; intro h' R' U'; (try dsimp only at R' U' ⊢))
  | (refine' leave_onB ?R210.k1 ?R210.k2 ?R210.k3 ?R210.k4 ?_; (case k3 => assumption); (case k1 => assumption); (case k4 => assumption); (case k2 => assumption); k_whole; intro h' R' U'; (try dsimp only at R' U' ⊢)))
  k_with "ite" => (k_here; first | (refine' iteT ?R211.h ?_; (case h => decide +kernel)) | (refine' iteF ?R211.h ?_; (case h => decide +kernel)))
  k_with "call builtin:str.find" => (k_here; k_dflt (refine c_find4 ?_))
  k_with "subscriptTail Name Name str int" => (k_here; k_dflt (refine item_str (by decide +kernel) (by decide +kernel) (by decide +kernel) ?_); intro _)
  k_with "call ref" => (k_here; (try refine (?_ : wpAny _ (PySem.Around.deeper _ _) _ _ _ _)); (with_reducible show wpAny _ _ (PySem.call (Value.ref 248) _ _) _ _ _); (try k_fold); k_dflt ((first | (refine' Ctr.use0 (c_nb0 _ _ _ _ _ _ ?R214.p1 ?R214.p2) ?R214.k1 ?R214.k2 ?R214.k3 ?R214.k4 ?R214.k5 ?R214.k6 ?R214.k7 ?R214.k8 ?_; tb_start; (case p1 => k_mem); (case p2 => k_mem)) | (refine' Ctr.use0 (c_nb1 _ _ _ _ _ _ ?R214.p1 ?R214.p2) ?R214.k1 ?R214.k2 ?R214.k3 ?R214.k4 ?R214.k5 ?R214.k6 ?R214.k7 ?R214.k8 ?_; tb_start; (case p1 => k_mem); (case p2 => k_mem)) | (refine' Ctr.use0 (c_nb2 _ _ _ _ _ _ ?R214.p1 ?R214.p2) ?R214.k1 ?R214.k2 ?R214.k3 ?R214.k4 ?R214.k5 ?R214.k6 ?R214.k7 ?R214.k8 ?_; tb_start; (case p1 => k_mem); (case p2 => k_mem)) | (refine' Ctr.use0 (c_nb3 _ _ _ _ _ _ ?R214.p1 ?R214.p2) ?R214.k1 ?R214.k2 ?R214.k3 ?R214.k4 ?R214.k5 ?R214.k6 ?R214.k7 ?R214.k8 ?_; tb_start; (case p1 => k_mem); (case p2 => k_mem)) | (refine' Ctr.use0 (c_nb4 _ _ _ _ _ _ ?R214.p1 ?R214.p2) ?R214.k1 ?R214.k2 ?R214.k3 ?R214.k4 ?R214.k5 ?R214.k6 ?R214.k7 ?R214.k8 ?_; tb_start; (case p1 => k_mem); (case p2 => k_mem)) | (refine' Ctr.use0 (c_nb5 _ _ _ _ _ _ ?R214.p1 ?R214.p2) ?R214.k1 ?R214.k2 ?R214.k3 ?R214.k4 ?R214.k5 ?R214.k6 ?R214.k7 ?R214.k8 ?_; tb_start; (case p1 => k_mem); (case p2 => k_mem))); intro v' nw' h' tk' F' N' q'; obtain ⟨q1, q2⟩ := q'; subst q1 q2; (try dsimp only)))
  k_with "call ref" => (k_here; (try refine (?_ : wpAny _ (PySem.Around.deeper _ _) _ _ _ _)); (with_reducible show wpAny _ _ (PySem.call (Value.ref 241) _ _) _ _ _); (try k_fold); k_dflt (refine' Ctr.use0 (c_token_text _ _ _ _ _ _ ?R215.p1 ?R215.p2 ?R215.p3) ?R215.k1 ?R215.k2 ?R215.k3 ?R215.k4 ?R215.k5 ?R215.k6 ?R215.k7 ?R215.k8 ?_; tb_start; (case p3 => k_mem); (case p2 => exact rfl); (case p1 => decide +kernel); intro v' nw' h' tk' F' N' q'; obtain ⟨tq, q1, q2⟩ := q'; (first | (replace q1 := q1.trans (congrArg (Value.str · _) (show tokText (Str.ofString "name") (Str.ofString "A") = Str.ofString "A" by decide +kernel))) | (replace q1 := q1.trans (congrArg (Value.str · _) (show tokText (Str.ofString "number") (Str.ofString "1") = Str.ofString "1" by decide +kernel))) | (replace q1 := q1.trans (congrArg (Value.str · _) (show tokText (Str.ofString "number") (Str.ofString "10") = Str.ofString "10" by decide +kernel))) | (replace q1 := q1.trans (congrArg (Value.str · _) (show tokText (Str.ofString "raw") (Str.ofString "1, 2") = Str.ofString "1, 2" by decide +kernel))) | (replace q1 := q1.trans (congrArg (Value.str · _) (show tokText (Str.ofString "rem") (Str.ofString "A  B") = Str.ofString "REM A  B" by decide +kernel))) | (replace q1 := q1.trans (congrArg (Value.str · _) (show tokText (Str.ofString "sign") (Str.ofString "=") = Str.ofString "=" by decide +kernel))) | (replace q1 := q1.trans (congrArg (Value.str · _) (show tokText (Str.ofString "text") (Str.ofString "X") = Str.ofString "\"X\"" by decide +kernel))) | (replace q1 := q1.trans (congrArg (Value.str · _) (show tokText (Str.ofString "word") (Str.ofString "DATA") = Str.ofString "DATA" by decide +kernel))) | (replace q1 := q1.trans (congrArg (Value.str · _) (show tokText (Str.ofString "word") (Str.ofString "GOTO") = Str.ofString "GOTO" by decide +kernel))) | (replace q1 := q1.trans (congrArg (Value.str · _) (show tokText (Str.ofString "word") (Str.ofString "PRINT") = Str.ofString "PRINT" by decide +kernel)))); (try dsimp only at q1); subst q1 q2; (try dsimp only)))
  k_with "exec For Tuple Call cons nil" => (k_here; (rename Fr _ _ _ _ => lF'); (with_unfolding_all refine' For_turns lF' ?_; k_whole))
  k_steps
  exact hret _ _ _ _ (by k_asm) (by k_asm) ⟨⟨_, rfl⟩, rfl⟩

theorem News.consm {h₀ h : Heap} {L : Addr} {a : Addr × Obj} {l nw : Led} (m : a ∈ nw) (N : News h₀ L h nw) (N2 : News h₀ L h l) : News h₀ L h (a :: l) := fun p hp => by
  rcases List.mem_cons.mp hp with e | e
  · rw [e]; exact N _ m
  · exact N2 p e

set_option maxHeartbeats 4000000 in
theorem c_canon0 (t : Tok) : Ctr w mean mg mb 262 14 news [.str (Str.ofString "PRINT A") t] (fun v nw => OneTok (Str.ofString "PRINT A") v ∧ news = nw) NoExc := by
  intro dp un gd cn cs a ccd cl outer A₀ base h₀ L m s Q E B F X N T hk hd' hu hret hexc
  refine wpAny_call ?_
  k_dflt (refine' code_def0 ?k1 ?k2 ?k3 ?k4 ?k5 ?kA ?kF ?kK ?k6 ?k7 ?k8 ?k9 ?kB ?_ ?c2 ?c3 ?c4 ?c5; (case kA => exact rfl); (case kF => exact rfl); (case kK => assumption); (case k1 => k_asm); (case k2 => k_asm); (case k3 => k_asm); (case k4 => k_asm); (case k5 => k_asm); (case k6 => k_is); (case k7 => k_is); (case k8 => ktr_room); (case k9 => exact BindsTo.of_eq rfl); (case c5 => decide); (case kB => exact locs rfl); (case c2 => exact rfl); (case c3 => exact rfl); (case c4 => exact rfl); k_whole; intro g' L' h' HG' FG' F' N' B' X' T'; (try dsimp only); (try k_lift B'); (try k_fold))
  have hretQ : ∀ v h' tk', Fr h₀ L h' m → (∀ p ∈ news, h'.get? p.1 = some p.2) → OneTok (Str.ofString "PRINT A") v → Q v { s with heap := h', toks := tk' } := fun v h' tk' F' hg q => hret v news h' tk' F' (fun p hp => ⟨hg p hp, (N p hp).2⟩) ⟨q, rfl⟩
  have HGK := And.intro HG' True.intro
  clear N hret hexc HG'
  w_top off
  k_with_none
  k_with "execs cons" => ((try k_fold); refine wpAny_execs_cons ?_; refine (let sk := _; (?_ : wpAny _ _ _ _ _ sk)))
  k_with "eval Call" => (k_here; (with_reducible show wpAny _ _ (eval (Expr.Call (Expr.Name _ _) _ [] _) _) _ _ _); k_dflt (refine Call_ ?_))
  k_with "exec Raise some none" => (k_here; (refine' raise_B ?_ ?R207.hh); (case hh => k_dflt rfl))
  k_with "call ref" => (k_here; (try refine (?_ : wpAny _ (PySem.Around.deeper _ _) _ _ _ _)); (with_reducible show wpAny _ _ (PySem.call (Value.ref 34) _ _) _ _ _); refine' c_basic ?R208.b1 ?R208.b2 ?R208.b3 ?R208.b4 ?R208.b5 ?R208.b6 ?R208.b7 ?R208.b8 ?R208.b9 ?_; (case b1 => k_asm); (case b2 => k_asm); (case b3 => k_asm); (case b4 => k_asm); (case b5 => k_asm); (case b6 => rfl); (case b7 => rfl); (case b8 => first | rfl | assumption); (case b9 => ktr_room); intro e' dx' oD' ta' h' tk' F' N' d1' d2' d3')
  k_with "RaiseB" => (refine' ⟨_, _, _, rfl, ?R209.r1, ?R209.r2, ?_⟩; (case r1 => exact (News.get (by assumption) (.head _))); (case r2 => exact (Frag.In.keeps (by assumption) (Fr.keep (by assumption))) _ _ (by k_dflt k_is)))
  k_with "leaving ref" => (k_here; first
  | (refine' leave_newB ?R210.k1 ?R210.k2 ?R210.k3 ?R210.k4 ?R210.k5 ?R210.k6 ?_; (case k1 => assumption); (case k2 => assumption); (case k3 => assumption); (case k4 => assumption); (case k5 => assumption); (case k6 => assumption); k_whole; intro h' R' U'; (try dsimp only at R' U' ⊢))
  | (refine' leave_onB ?R210.k1 ?R210.k2 ?R210.k3 ?R210.k4 ?_; (case k3 => assumption); (case k1 => assumption); (case k4 => assumption); (case k2 => assumption); k_whole; intro h' R' U'; (try dsimp only at R' U' ⊢)))
  k_with "ite" => (k_here; first | (refine' iteT ?R211.h ?_; (case h => decide +kernel)) | (refine' iteF ?R211.h ?_; (case h => decide +kernel)))
  k_with "call builtin:str.find" => (k_here; k_dflt (refine c_find4 ?_))
  k_with "subscriptTail Name Name str int" => (k_here; k_dflt (refine item_str (by decide +kernel) (by decide +kernel) (by decide +kernel) ?_); intro _)
  k_with "call ref" => (k_here; (try refine (?_ : wpAny _ (PySem.Around.deeper _ _) _ _ _ _)); (with_reducible show wpAny _ _ (PySem.call (Value.ref 248) _ _) _ _ _); (try k_fold); k_dflt ((first | (refine' Ctr.use0 (c_nb0 _ _ _ _ _ _ ?R214.p1 ?R214.p2) ?R214.k1 ?R214.k2 ?R214.k3 ?R214.k4 ?R214.k5 ?R214.k6 ?R214.k7 ?R214.k8 ?_; tb_start; (case p1 => k_mem); (case p2 => k_mem)) | (refine' Ctr.use0 (c_nb1 _ _ _ _ _ _ ?R214.p1 ?R214.p2) ?R214.k1 ?R214.k2 ?R214.k3 ?R214.k4 ?R214.k5 ?R214.k6 ?R214.k7 ?R214.k8 ?_; tb_start; (case p1 => k_mem); (case p2 => k_mem)) | (refine' Ctr.use0 (c_nb2 _ _ _ _ _ _ ?R214.p1 ?R214.p2) ?R214.k1 ?R214.k2 ?R214.k3 ?R214.k4 ?R214.k5 ?R214.k6 ?R214.k7 ?R214.k8 ?_; tb_start; (case p1 => k_mem); (case p2 => k_mem)) | (refine' Ctr.use0 (c_nb3 _ _ _ _ _ _ ?R214.p1 ?R214.p2) ?R214.k1 ?R214.k2 ?R214.k3 ?R214.k4 ?R214.k5 ?R214.k6 ?R214.k7 ?R214.k8 ?_; tb_start; (case p1 => k_mem); (case p2 => k_mem)) | (refine' Ctr.use0 (c_nb4 _ _ _ _ _ _ ?R214.p1 ?R214.p2) ?R214.k1 ?R214.k2 ?R214.k3 ?R214.k4 ?R214.k5 ?R214.k6 ?R214.k7 ?R214.k8 ?_; tb_start; (case p1 => k_mem); (case p2 => k_mem)) | (refine' Ctr.use0 (c_nb5 _ _ _ _ _ _ ?R214.p1 ?R214.p2) ?R214.k1 ?R214.k2 ?R214.k3 ?R214.k4 ?R214.k5 ?R214.k6 ?R214.k7 ?R214.k8 ?_; tb_start; (case p1 => k_mem); (case p2 => k_mem))); intro v' nw' h' tk' F' N' q'; obtain ⟨q1, q2⟩ := q'; subst q1 q2; (try dsimp only)))
  k_with "call ref" => (k_here; (try refine (?_ : wpAny _ (PySem.Around.deeper _ _) _ _ _ _)); (with_reducible show wpAny _ _ (PySem.call (Value.ref 241) _ _) _ _ _); (try k_fold); k_dflt (refine' Ctr.use0 (c_token_text _ _ _ _ _ _ ?R215.p1 ?R215.p2 ?R215.p3) ?R215.k1 ?R215.k2 ?R215.k3 ?R215.k4 ?R215.k5 ?R215.k6 ?R215.k7 ?R215.k8 ?_; tb_start; (case p3 => k_mem); (case p2 => exact rfl); (case p1 => decide +kernel); intro v' nw' h' tk' F' N' q'; obtain ⟨tq, q1, q2⟩ := q'; (first | (replace q1 := q1.trans (congrArg (Value.str · _) (show tokText (Str.ofString "name") (Str.ofString "A") = Str.ofString "A" by decide +kernel))) | (replace q1 := q1.trans (congrArg (Value.str · _) (show tokText (Str.ofString "number") (Str.ofString "1") = Str.ofString "1" by decide +kernel))) | (replace q1 := q1.trans (congrArg (Value.str · _) (show tokText (Str.ofString "number") (Str.ofString "10") = Str.ofString "10" by decide +kernel))) | (replace q1 := q1.trans (congrArg (Value.str · _) (show tokText (Str.ofString "raw") (Str.ofString "1, 2") = Str.ofString "1, 2" by decide +kernel))) | (replace q1 := q1.trans (congrArg (Value.str · _) (show tokText (Str.ofString "rem") (Str.ofString "A  B") = Str.ofString "REM A  B" by decide +kernel))) | (replace q1 := q1.trans (congrArg (Value.str · _) (show tokText (Str.ofString "sign") (Str.ofString "=") = Str.ofString "=" by decide +kernel))) | (replace q1 := q1.trans (congrArg (Value.str · _) (show tokText (Str.ofString "text") (Str.ofString "X") = Str.ofString "\"X\"" by decide +kernel))) | (replace q1 := q1.trans (congrArg (Value.str · _) (show tokText (Str.ofString "word") (Str.ofString "DATA") = Str.ofString "DATA" by decide +kernel))) | (replace q1 := q1.trans (congrArg (Value.str · _) (show tokText (Str.ofString "word") (Str.ofString "GOTO") = Str.ofString "GOTO" by decide +kernel))) | (replace q1 := q1.trans (congrArg (Value.str · _) (show tokText (Str.ofString "word") (Str.ofString "PRINT") = Str.ofString "PRINT" by decide +kernel)))); (try dsimp only at q1); subst q1 q2; (try dsimp only)))
  k_with "exec For Tuple Call cons nil" => (k_here; (rename Fr _ _ _ _ => lF'); (with_unfolding_all refine' For_turns lF' ?_; k_whole))
  k_with "call ref" => (k_here; (try refine (?_ : wpAny _ (PySem.Around.deeper _ _) _ _ _ _)); (with_reducible show wpAny _ _ (PySem.call (Value.ref 234) _ _) _ _ _); (try k_fold); k_dflt (first | ((refine' Ctr.use0 (c_toks0 _) ?R217.k1 ?R217.k2 ?R217.k3 ?R217.k4 ?R217.k5 ?R217.k6 ?R217.k7 ?R217.k8 ?_); tb_start; intro v' nw' h' tk' F' N' q'; obtain ⟨⟨l, c, T0, a0, b0, T1, a1, b1, q1, ml, m0, m1⟩, qs⟩ := q'; subst q1; (replace N' := (News.consm ml N' (News.consm m0 N' (News.consm m1 N' News.nil)))); clear qs; (try dsimp only)) | ((refine' Ctr.use0 (c_toks1 _) ?R217.k1 ?R217.k2 ?R217.k3 ?R217.k4 ?R217.k5 ?R217.k6 ?R217.k7 ?R217.k8 ?_); tb_start; intro v' nw' h' tk' F' N' q'; obtain ⟨⟨l, c, T0, a0, b0, T1, a1, b1, q1, ml, m0, m1⟩, qs⟩ := q'; subst q1; (replace N' := (News.consm ml N' (News.consm m0 N' (News.consm m1 N' News.nil)))); clear qs; (try dsimp only)) | ((refine' Ctr.use0 (c_toks2 _) ?R217.k1 ?R217.k2 ?R217.k3 ?R217.k4 ?R217.k5 ?R217.k6 ?R217.k7 ?R217.k8 ?_); tb_start; intro v' nw' h' tk' F' N' q'; obtain ⟨⟨l, c, T0, a0, b0, q1, ml, m0⟩, qs⟩ := q'; subst q1; (replace N' := (News.consm ml N' (News.consm m0 N' News.nil))); clear qs; (try dsimp only)) | ((refine' Ctr.use0 (c_toks3 _) ?R217.k1 ?R217.k2 ?R217.k3 ?R217.k4 ?R217.k5 ?R217.k6 ?R217.k7 ?R217.k8 ?_); tb_start; intro v' nw' h' tk' F' N' q'; obtain ⟨⟨l, c, T0, a0, b0, T1, a1, b1, T2, a2, b2, q1, ml, m0, m1, m2⟩, qs⟩ := q'; subst q1; (replace N' := (News.consm ml N' (News.consm m0 N' (News.consm m1 N' (News.consm m2 N' News.nil))))); clear qs; (try dsimp only)) | ((refine' Ctr.use0 (c_toks4 _) ?R217.k1 ?R217.k2 ?R217.k3 ?R217.k4 ?R217.k5 ?R217.k6 ?R217.k7 ?R217.k8 ?_); tb_start; intro v' nw' h' tk' F' N' q'; obtain ⟨⟨l, c, T0, a0, b0, T1, a1, b1, q1, ml, m0, m1⟩, qs⟩ := q'; subst q1; (replace N' := (News.consm ml N' (News.consm m0 N' (News.consm m1 N' News.nil)))); clear qs; (try dsimp only)) | ((refine' Ctr.use0 (c_toks5 _) ?R217.k1 ?R217.k2 ?R217.k3 ?R217.k4 ?R217.k5 ?R217.k6 ?R217.k7 ?R217.k8 ?_); tb_start; intro v' nw' h' tk' F' N' q'; obtain ⟨⟨l, c, T0, a0, b0, T1, a1, b1, q1, ml, m0, m1⟩, qs⟩ := q'; subst q1; (replace N' := (News.consm ml N' (News.consm m0 N' (News.consm m1 N' News.nil)))); clear qs; (try dsimp only))))
  k_with "call ref" => (k_here; (try refine (?_ : wpAny _ (PySem.Around.deeper _ _) _ _ _ _)); (with_reducible show wpAny _ _ (PySem.call (Value.ref 255) _ _) _ _ _); (try k_fold); k_dflt (first | ((refine' Ctr.use0 (c_rowof0 _ _ _ _ _ _ _ _) ?R218.k1 ?R218.k2 ?R218.k3 ?R218.k4 ?R218.k5 ?R218.k6 ?R218.k7 ?R218.k8 ?_); tb_start; intro v' nw' h' tk' F' N' q'; obtain ⟨⟨tq, q1⟩, q2⟩ := q'; subst q1 q2; (try dsimp only)) | ((refine' Ctr.use0 (c_rowof1 _ _ _ _ _ _ _ _) ?R218.k1 ?R218.k2 ?R218.k3 ?R218.k4 ?R218.k5 ?R218.k6 ?R218.k7 ?R218.k8 ?_); tb_start; intro v' nw' h' tk' F' N' q'; obtain ⟨⟨tq, q1⟩, q2⟩ := q'; subst q1 q2; (try dsimp only)) | ((refine' Ctr.use0 (c_rowof2 _ _ _ _ _) ?R218.k1 ?R218.k2 ?R218.k3 ?R218.k4 ?R218.k5 ?R218.k6 ?R218.k7 ?R218.k8 ?_); tb_start; intro v' nw' h' tk' F' N' q'; obtain ⟨⟨tq, q1⟩, q2⟩ := q'; subst q1 q2; (try dsimp only)) | ((refine' Ctr.use0 (c_rowof3 _ _ _ _ _ _ _ _ _ _ _) ?R218.k1 ?R218.k2 ?R218.k3 ?R218.k4 ?R218.k5 ?R218.k6 ?R218.k7 ?R218.k8 ?_); tb_start; intro v' nw' h' tk' F' N' q'; obtain ⟨⟨tq, q1⟩, q2⟩ := q'; subst q1 q2; (try dsimp only)) | ((refine' Ctr.use0 (c_rowof4 _ _ _ _ _ _ _ _) ?R218.k1 ?R218.k2 ?R218.k3 ?R218.k4 ?R218.k5 ?R218.k6 ?R218.k7 ?R218.k8 ?_); tb_start; intro v' nw' h' tk' F' N' q'; obtain ⟨⟨tq, q1⟩, q2⟩ := q'; subst q1 q2; (try dsimp only)) | ((refine' Ctr.use0 (c_rowof5 _ _ _ _ _ _ _ _) ?R218.k1 ?R218.k2 ?R218.k3 ?R218.k4 ?R218.k5 ?R218.k6 ?R218.k7 ?R218.k8 ?_); tb_start; intro v' nw' h' tk' F' N' q'; obtain ⟨⟨tq, q1⟩, q2⟩ := q'; subst q1 q2; (try dsimp only))))
  k_steps
  exact hretQ _ _ _ (by k_asm) (fun p hp => (show Fr g' L' _ _ by with_reducible assumption).keep _ _ (HGK.1 p hp)) ⟨_, rfl⟩

set_option maxHeartbeats 4000000 in
theorem c_canon1 (t : Tok) : Ctr w mean mg mb 262 14 news [.str (Str.ofString "GOTO 10") t] (fun v nw => OneTok (Str.ofString "GOTO 10") v ∧ news = nw) NoExc := by
  intro dp un gd cn cs a ccd cl outer A₀ base h₀ L m s Q E B F X N T hk hd' hu hret hexc
  refine wpAny_call ?_
  k_dflt (refine' code_def0 ?k1 ?k2 ?k3 ?k4 ?k5 ?kA ?kF ?kK ?k6 ?k7 ?k8 ?k9 ?kB ?_ ?c2 ?c3 ?c4 ?c5; (case kA => exact rfl); (case kF => exact rfl); (case kK => assumption); (case k1 => k_asm); (case k2 => k_asm); (case k3 => k_asm); (case k4 => k_asm); (case k5 => k_asm); (case k6 => k_is); (case k7 => k_is); (case k8 => ktr_room); (case k9 => exact BindsTo.of_eq rfl); (case c5 => decide); (case kB => exact locs rfl); (case c2 => exact rfl); (case c3 => exact rfl); (case c4 => exact rfl); k_whole; intro g' L' h' HG' FG' F' N' B' X' T'; (try dsimp only); (try k_lift B'); (try k_fold))
  have hretQ : ∀ v h' tk', Fr h₀ L h' m → (∀ p ∈ news, h'.get? p.1 = some p.2) → OneTok (Str.ofString "GOTO 10") v → Q v { s with heap := h', toks := tk' } := fun v h' tk' F' hg q => hret v news h' tk' F' (fun p hp => ⟨hg p hp, (N p hp).2⟩) ⟨q, rfl⟩
  have HGK := And.intro HG' True.intro
  clear N hret hexc HG'
  w_top off
  k_with_none
  k_with "execs cons" => ((try k_fold); refine wpAny_execs_cons ?_; refine (let sk := _; (?_ : wpAny _ _ _ _ _ sk)))
  k_with "eval Call" => (k_here; (with_reducible show wpAny _ _ (eval (Expr.Call (Expr.Name _ _) _ [] _) _) _ _ _); k_dflt (refine Call_ ?_))
  k_with "exec Raise some none" => (k_here; (refine' raise_B ?_ ?R207.hh); (case hh => k_dflt rfl))
  k_with "call ref" => (k_here; (try refine (?_ : wpAny _ (PySem.Around.deeper _ _) _ _ _ _)); (with_reducible show wpAny _ _ (PySem.call (Value.ref 34) _ _) _ _ _); refine' c_basic ?R208.b1 ?R208.b2 ?R208.b3 ?R208.b4 ?R208.b5 ?R208.b6 ?R208.b7 ?R208.b8 ?R208.b9 ?_; (case b1 => k_asm); (case b2 => k_asm); (case b3 => k_asm); (case b4 => k_asm); (case b5 => k_asm); (case b6 => rfl); (case b7 => rfl); (case b8 => first | rfl | assumption); (case b9 => ktr_room); intro e' dx' oD' ta' h' tk' F' N' d1' d2' d3')
  k_with "RaiseB" => (refine' ⟨_, _, _, rfl, ?R209.r1, ?R209.r2, ?_⟩; (case r1 => exact (News.get (by assumption) (.head _))); (case r2 => exact (Frag.In.keeps (by assumption) (Fr.keep (by assumption))) _ _ (by k_dflt k_is)))
  k_with "leaving ref" => (k_here; first
  | (refine' leave_newB ?R210.k1 ?R210.k2 ?R210.k3 ?R210.k4 ?R210.k5 ?R210.k6 ?_; (case k1 => assumption); (case k2 => assumption); (case k3 => assumption); (case k4 => assumption); (case k5 => assumption); (case k6 => assumption); k_whole; intro h' R' U'; (try dsimp only at R' U' ⊢))
  | (refine' leave_onB ?R210.k1 ?R210.k2 ?R210.k3 ?R210.k4 ?_; (case k3 => assumption); (case k1 => assumption); (case k4 => assumption); (case k2 => assumption); k_whole; intro h' R' U'; (try dsimp only at R' U' ⊢)))
  k_with "ite" => (k_here; first | (refine' iteT ?R211.h ?_; (case h => decide +kernel)) | (refine' iteF ?R211.h ?_; (case h => decide +kernel)))
  k_with "call builtin:str.find" => (k_here; k_dflt (refine c_find4 ?_))
  k_with "subscriptTail Name Name str int" => (k_here; k_dflt (refine item_str (by decide +kernel) (by decide +kernel) (by decide +kernel) ?_); intro _)
  k_with "call ref" => (k_here; (try refine (?_ : wpAny _ (PySem.Around.deeper _ _) _ _ _ _)); (with_reducible show wpAny _ _ (PySem.call (Value.ref 248) _ _) _ _ _); (try k_fold); k_dflt ((first | (refine' Ctr.use0 (c_nb0 _ _ _ _ _ _ ?R214.p1 ?R214.p2) ?R214.k1 ?R214.k2 ?R214.k3 ?R214.k4 ?R214.k5 ?R214.k6 ?R214.k7 ?R214.k8 ?_; tb_start; (case p1 => k_mem); (case p2 => k_mem)) | (refine' Ctr.use0 (c_nb1 _ _ _ _ _ _ ?R214.p1 ?R214.p2) ?R214.k1 ?R214.k2 ?R214.k3 ?R214.k4 ?R214.k5 ?R214.k6 ?R214.k7 ?R214.k8 ?_; tb_start; (case p1 => k_mem); (case p2 => k_mem)) | (refine' Ctr.use0 (c_nb2 _ _ _ _ _ _ ?R214.p1 ?R214.p2) ?R214.k1 ?R214.k2 ?R214.k3 ?R214.k4 ?R214.k5 ?R214.k6 ?R214.k7 ?R214.k8 ?_; tb_start; (case p1 => k_mem); (case p2 => k_mem)) | (refine' Ctr.use0 (c_nb3 _ _ _ _ _ _ ?R214.p1 ?R214.p2) ?R214.k1 ?R214.k2 ?R214.k3 ?R214.k4 ?R214.k5 ?R214.k6 ?R214.k7 ?R214.k8 ?_; tb_start; (case p1 => k_mem); (case p2 => k_mem)) | (refine' Ctr.use0 (c_nb4 _ _ _ _ _ _ ?R214.p1 ?R214.p2) ?R214.k1 ?R214.k2 ?R214.k3 ?R214.k4 ?R214.k5 ?R214.k6 ?R214.k7 ?R214.k8 ?_; tb_start; (case p1 => k_mem); (case p2 => k_mem)) | (refine' Ctr.use0 (c_nb5 _ _ _ _ _ _ ?R214.p1 ?R214.p2) ?R214.k1 ?R214.k2 ?R214.k3 ?R214.k4 ?R214.k5 ?R214.k6 ?R214.k7 ?R214.k8 ?_; tb_start; (case p1 => k_mem); (case p2 => k_mem))); intro v' nw' h' tk' F' N' q'; obtain ⟨q1, q2⟩ := q'; subst q1 q2; (try dsimp only)))
  k_with "call ref" => (k_here; (try refine (?_ : wpAny _ (PySem.Around.deeper _ _) _ _ _ _)); (with_reducible show wpAny _ _ (PySem.call (Value.ref 241) _ _) _ _ _); (try k_fold); k_dflt (refine' Ctr.use0 (c_token_text _ _ _ _ _ _ ?R215.p1 ?R215.p2 ?R215.p3) ?R215.k1 ?R215.k2 ?R215.k3 ?R215.k4 ?R215.k5 ?R215.k6 ?R215.k7 ?R215.k8 ?_; tb_start; (case p3 => k_mem); (case p2 => exact rfl); (case p1 => decide +kernel); intro v' nw' h' tk' F' N' q'; obtain ⟨tq, q1, q2⟩ := q'; (first | (replace q1 := q1.trans (congrArg (Value.str · _) (show tokText (Str.ofString "name") (Str.ofString "A") = Str.ofString "A" by decide +kernel))) | (replace q1 := q1.trans (congrArg (Value.str · _) (show tokText (Str.ofString "number") (Str.ofString "1") = Str.ofString "1" by decide +kernel))) | (replace q1 := q1.trans (congrArg (Value.str · _) (show tokText (Str.ofString "number") (Str.ofString "10") = Str.ofString "10" by decide +kernel))) | (replace q1 := q1.trans (congrArg (Value.str · _) (show tokText (Str.ofString "raw") (Str.ofString "1, 2") = Str.ofString "1, 2" by decide +kernel))) | (replace q1 := q1.trans (congrArg (Value.str · _) (show tokText (Str.ofString "rem") (Str.ofString "A  B") = Str.ofString "REM A  B" by decide +kernel))) | (replace q1 := q1.trans (congrArg (Value.str · _) (show tokText (Str.ofString "sign") (Str.ofString "=") = Str.ofString "=" by decide +kernel))) | (replace q1 := q1.trans (congrArg (Value.str · _) (show tokText (Str.ofString "text") (Str.ofString "X") = Str.ofString "\"X\"" by decide +kernel))) | (replace q1 := q1.trans (congrArg (Value.str · _) (show tokText (Str.ofString "word") (Str.ofString "DATA") = Str.ofString "DATA" by decide +kernel))) | (replace q1 := q1.trans (congrArg (Value.str · _) (show tokText (Str.ofString "word") (Str.ofString "GOTO") = Str.ofString "GOTO" by decide +kernel))) | (replace q1 := q1.trans (congrArg (Value.str · _) (show tokText (Str.ofString "word") (Str.ofString "PRINT") = Str.ofString "PRINT" by decide +kernel)))); (try dsimp only at q1); subst q1 q2; (try dsimp only)))
  k_with "exec For Tuple Call cons nil" => (k_here; (rename Fr _ _ _ _ => lF'); (with_unfolding_all refine' For_turns lF' ?_; k_whole))
  k_with "call ref" => (k_here; (try refine (?_ : wpAny _ (PySem.Around.deeper _ _) _ _ _ _)); (with_reducible show wpAny _ _ (PySem.call (Value.ref 234) _ _) _ _ _); (try k_fold); k_dflt (first | ((refine' Ctr.use0 (c_toks0 _) ?R217.k1 ?R217.k2 ?R217.k3 ?R217.k4 ?R217.k5 ?R217.k6 ?R217.k7 ?R217.k8 ?_); tb_start; intro v' nw' h' tk' F' N' q'; obtain ⟨⟨l, c, T0, a0, b0, T1, a1, b1, q1, ml, m0, m1⟩, qs⟩ := q'; subst q1; (replace N' := (News.consm ml N' (News.consm m0 N' (News.consm m1 N' News.nil)))); clear qs; (try dsimp only)) | ((refine' Ctr.use0 (c_toks1 _) ?R217.k1 ?R217.k2 ?R217.k3 ?R217.k4 ?R217.k5 ?R217.k6 ?R217.k7 ?R217.k8 ?_); tb_start; intro v' nw' h' tk' F' N' q'; obtain ⟨⟨l, c, T0, a0, b0, T1, a1, b1, q1, ml, m0, m1⟩, qs⟩ := q'; subst q1; (replace N' := (News.consm ml N' (News.consm m0 N' (News.consm m1 N' News.nil)))); clear qs; (try dsimp only)) | ((refine' Ctr.use0 (c_toks2 _) ?R217.k1 ?R217.k2 ?R217.k3 ?R217.k4 ?R217.k5 ?R217.k6 ?R217.k7 ?R217.k8 ?_); tb_start; intro v' nw' h' tk' F' N' q'; obtain ⟨⟨l, c, T0, a0, b0, q1, ml, m0⟩, qs⟩ := q'; subst q1; (replace N' := (News.consm ml N' (News.consm m0 N' News.nil))); clear qs; (try dsimp only)) | ((refine' Ctr.use0 (c_toks3 _) ?R217.k1 ?R217.k2 ?R217.k3 ?R217.k4 ?R217.k5 ?R217.k6 ?R217.k7 ?R217.k8 ?_); tb_start; intro v' nw' h' tk' F' N' q'; obtain ⟨⟨l, c, T0, a0, b0, T1, a1, b1, T2, a2, b2, q1, ml, m0, m1, m2⟩, qs⟩ := q'; subst q1; (replace N' := (News.consm ml N' (News.consm m0 N' (News.consm m1 N' (News.consm m2 N' News.nil))))); clear qs; (try dsimp only)) | ((refine' Ctr.use0 (c_toks4 _) ?R217.k1 ?R217.k2 ?R217.k3 ?R217.k4 ?R217.k5 ?R217.k6 ?R217.k7 ?R217.k8 ?_); tb_start; intro v' nw' h' tk' F' N' q'; obtain ⟨⟨l, c, T0, a0, b0, T1, a1, b1, q1, ml, m0, m1⟩, qs⟩ := q'; subst q1; (replace N' := (News.consm ml N' (News.consm m0 N' (News.consm m1 N' News.nil)))); clear qs; (try dsimp only)) | ((refine' Ctr.use0 (c_toks5 _) ?R217.k1 ?R217.k2 ?R217.k3 ?R217.k4 ?R217.k5 ?R217.k6 ?R217.k7 ?R217.k8 ?_); tb_start; intro v' nw' h' tk' F' N' q'; obtain ⟨⟨l, c, T0, a0, b0, T1, a1, b1, q1, ml, m0, m1⟩, qs⟩ := q'; subst q1; (replace N' := (News.consm ml N' (News.consm m0 N' (News.consm m1 N' News.nil)))); clear qs; (try dsimp only))))
  k_with "call ref" => (k_here; (try refine (?_ : wpAny _ (PySem.Around.deeper _ _) _ _ _ _)); (with_reducible show wpAny _ _ (PySem.call (Value.ref 255) _ _) _ _ _); (try k_fold); k_dflt (first | ((refine' Ctr.use0 (c_rowof0 _ _ _ _ _ _ _ _) ?R218.k1 ?R218.k2 ?R218.k3 ?R218.k4 ?R218.k5 ?R218.k6 ?R218.k7 ?R218.k8 ?_); tb_start; intro v' nw' h' tk' F' N' q'; obtain ⟨⟨tq, q1⟩, q2⟩ := q'; subst q1 q2; (try dsimp only)) | ((refine' Ctr.use0 (c_rowof1 _ _ _ _ _ _ _ _) ?R218.k1 ?R218.k2 ?R218.k3 ?R218.k4 ?R218.k5 ?R218.k6 ?R218.k7 ?R218.k8 ?_); tb_start; intro v' nw' h' tk' F' N' q'; obtain ⟨⟨tq, q1⟩, q2⟩ := q'; subst q1 q2; (try dsimp only)) | ((refine' Ctr.use0 (c_rowof2 _ _ _ _ _) ?R218.k1 ?R218.k2 ?R218.k3 ?R218.k4 ?R218.k5 ?R218.k6 ?R218.k7 ?R218.k8 ?_); tb_start; intro v' nw' h' tk' F' N' q'; obtain ⟨⟨tq, q1⟩, q2⟩ := q'; subst q1 q2; (try dsimp only)) | ((refine' Ctr.use0 (c_rowof3 _ _ _ _ _ _ _ _ _ _ _) ?R218.k1 ?R218.k2 ?R218.k3 ?R218.k4 ?R218.k5 ?R218.k6 ?R218.k7 ?R218.k8 ?_); tb_start; intro v' nw' h' tk' F' N' q'; obtain ⟨⟨tq, q1⟩, q2⟩ := q'; subst q1 q2; (try dsimp only)) | ((refine' Ctr.use0 (c_rowof4 _ _ _ _ _ _ _ _) ?R218.k1 ?R218.k2 ?R218.k3 ?R218.k4 ?R218.k5 ?R218.k6 ?R218.k7 ?R218.k8 ?_); tb_start; intro v' nw' h' tk' F' N' q'; obtain ⟨⟨tq, q1⟩, q2⟩ := q'; subst q1 q2; (try dsimp only)) | ((refine' Ctr.use0 (c_rowof5 _ _ _ _ _ _ _ _) ?R218.k1 ?R218.k2 ?R218.k3 ?R218.k4 ?R218.k5 ?R218.k6 ?R218.k7 ?R218.k8 ?_); tb_start; intro v' nw' h' tk' F' N' q'; obtain ⟨⟨tq, q1⟩, q2⟩ := q'; subst q1 q2; (try dsimp only))))
  k_steps
  exact hretQ _ _ _ (by k_asm) (fun p hp => (show Fr g' L' _ _ by with_reducible assumption).keep _ _ (HGK.1 p hp)) ⟨_, rfl⟩

set_option maxHeartbeats 4000000 in
theorem c_canon2 (t : Tok) : Ctr w mean mg mb 262 14 news [.str (Str.ofString "REM A  B") t] (fun v nw => OneTok (Str.ofString "REM A  B") v ∧ news = nw) NoExc := by
  intro dp un gd cn cs a ccd cl outer A₀ base h₀ L m s Q E B F X N T hk hd' hu hret hexc
  refine wpAny_call ?_
  k_dflt (refine' code_def0 ?k1 ?k2 ?k3 ?k4 ?k5 ?kA ?kF ?kK ?k6 ?k7 ?k8 ?k9 ?kB ?_ ?c2 ?c3 ?c4 ?c5; (case kA => exact rfl); (case kF => exact rfl); (case kK => assumption); (case k1 => k_asm); (case k2 => k_asm); (case k3 => k_asm); (case k4 => k_asm); (case k5 => k_asm); (case k6 => k_is); (case k7 => k_is); (case k8 => ktr_room); (case k9 => exact BindsTo.of_eq rfl); (case c5 => decide); (case kB => exact locs rfl); (case c2 => exact rfl); (case c3 => exact rfl); (case c4 => exact rfl); k_whole; intro g' L' h' HG' FG' F' N' B' X' T'; (try dsimp only); (try k_lift B'); (try k_fold))
  have hretQ : ∀ v h' tk', Fr h₀ L h' m → (∀ p ∈ news, h'.get? p.1 = some p.2) → OneTok (Str.ofString "REM A  B") v → Q v { s with heap := h', toks := tk' } := fun v h' tk' F' hg q => hret v news h' tk' F' (fun p hp => ⟨hg p hp, (N p hp).2⟩) ⟨q, rfl⟩
  have HGK := And.intro HG' True.intro
  clear N hret hexc HG'
  w_top off
  k_with_none
  k_with "execs cons" => ((try k_fold); refine wpAny_execs_cons ?_; refine (let sk := _; (?_ : wpAny _ _ _ _ _ sk)))
  k_with "eval Call" => (k_here; (with_reducible show wpAny _ _ (eval (Expr.Call (Expr.Name _ _) _ [] _) _) _ _ _); k_dflt (refine Call_ ?_))
  k_with "exec Raise some none" => (k_here; (refine' raise_B ?_ ?R207.hh); (case hh => k_dflt rfl))
  k_with "call ref" => (k_here; (try refine (?_ : wpAny _ (PySem.Around.deeper _ _) _ _ _ _)); (with_reducible show wpAny _ _ (PySem.call (Value.ref 34) _ _) _ _ _); refine' c_basic ?R208.b1 ?R208.b2 ?R208.b3 ?R208.b4 ?R208.b5 ?R208.b6 ?R208.b7 ?R208.b8 ?R208.b9 ?_; (case b1 => k_asm); (case b2 => k_asm); (case b3 => k_asm); (case b4 => k_asm); (case b5 => k_asm); (case b6 => rfl); (case b7 => rfl); (case b8 => first | rfl | assumption); (case b9 => ktr_room); intro e' dx' oD' ta' h' tk' F' N' d1' d2' d3')
  k_with "RaiseB" => (refine' ⟨_, _, _, rfl, ?R209.r1, ?R209.r2, ?_⟩; (case r1 => exact (News.get (by assumption) (.head _))); (case r2 => exact (Frag.In.keeps (by assumption) (Fr.keep (by assumption))) _ _ (by k_dflt k_is)))
  k_with "leaving ref" => (k_here; first
  | (refine' leave_newB ?R210.k1 ?R210.k2 ?R210.k3 ?R210.k4 ?R210.k5 ?R210.k6 ?_; (case k1 => assumption); (case k2 => assumption); (case k3 => assumption); (case k4 => assumption); (case k5 => assumption); (case k6 => assumption); k_whole; intro h' R' U'; (try dsimp only at R' U' ⊢))
  | (refine' leave_onB ?R210.k1 ?R210.k2 ?R210.k3 ?R210.k4 ?_; (case k3 => assumption); (case k1 => assumption); (case k4 => assumption); (case k2 => assumption); k_whole; intro h' R' U'; (try dsimp only at R' U' ⊢)))
  k_with "ite" => (k_here; first | (refine' iteT ?R211.h ?_; (case h => decide +kernel)) | (refine' iteF ?R211.h ?_; (case h => decide +kernel)))
  k_with "call builtin:str.find" => (k_here; k_dflt (refine c_find4 ?_))
  k_with "subscriptTail Name Name str int" => (k_here; k_dflt (refine item_str (by decide +kernel) (by decide +kernel) (by decide +kernel) ?_); intro _)
  k_with "call ref" => (k_here; (try refine (?_ : wpAny _ (PySem.Around.deeper _ _) _ _ _ _)); (with_reducible show wpAny _ _ (PySem.call (Value.ref 248) _ _) _ _ _); (try k_fold); k_dflt ((first | (refine' Ctr.use0 (c_nb0 _ _ _ _ _ _ ?R214.p1 ?R214.p2) ?R214.k1 ?R214.k2 ?R214.k3 ?R214.k4 ?R214.k5 ?R214.k6 ?R214.k7 ?R214.k8 ?_; tb_start; (case p1 => k_mem); (case p2 => k_mem)) | (refine' Ctr.use0 (c_nb1 _ _ _ _ _ _ ?R214.p1 ?R214.p2) ?R214.k1 ?R214.k2 ?R214.k3 ?R214.k4 ?R214.k5 ?R214.k6 ?R214.k7 ?R214.k8 ?_; tb_start; (case p1 => k_mem); (case p2 => k_mem)) | (refine' Ctr.use0 (c_nb2 _ _ _ _ _ _ ?R214.p1 ?R214.p2) ?R214.k1 ?R214.k2 ?R214.k3 ?R214.k4 ?R214.k5 ?R214.k6 ?R214.k7 ?R214.k8 ?_; tb_start; (case p1 => k_mem); (case p2 => k_mem)) | (refine' Ctr.use0 (c_nb3 _ _ _ _ _ _ ?R214.p1 ?R214.p2) ?R214.k1 ?R214.k2 ?R214.k3 ?R214.k4 ?R214.k5 ?R214.k6 ?R214.k7 ?R214.k8 ?_; tb_start; (case p1 => k_mem); (case p2 => k_mem)) | (refine' Ctr.use0 (c_nb4 _ _ _ _ _ _ ?R214.p1 ?R214.p2) ?R214.k1 ?R214.k2 ?R214.k3 ?R214.k4 ?R214.k5 ?R214.k6 ?R214.k7 ?R214.k8 ?_; tb_start; (case p1 => k_mem); (case p2 => k_mem)) | (refine' Ctr.use0 (c_nb5 _ _ _ _ _ _ ?R214.p1 ?R214.p2) ?R214.k1 ?R214.k2 ?R214.k3 ?R214.k4 ?R214.k5 ?R214.k6 ?R214.k7 ?R214.k8 ?_; tb_start; (case p1 => k_mem); (case p2 => k_mem))); intro v' nw' h' tk' F' N' q'; obtain ⟨q1, q2⟩ := q'; subst q1 q2; (try dsimp only)))
  k_with "call ref" => (k_here; (try refine (?_ : wpAny _ (PySem.Around.deeper _ _) _ _ _ _)); (with_reducible show wpAny _ _ (PySem.call (Value.ref 241) _ _) _ _ _); (try k_fold); k_dflt (refine' Ctr.use0 (c_token_text _ _ _ _ _ _ ?R215.p1 ?R215.p2 ?R215.p3) ?R215.k1 ?R215.k2 ?R215.k3 ?R215.k4 ?R215.k5 ?R215.k6 ?R215.k7 ?R215.k8 ?_; tb_start; (case p3 => k_mem); (case p2 => exact rfl); (case p1 => decide +kernel); intro v' nw' h' tk' F' N' q'; obtain ⟨tq, q1, q2⟩ := q'; (first | (replace q1 := q1.trans (congrArg (Value.str · _) (show tokText (Str.ofString "name") (Str.ofString "A") = Str.ofString "A" by decide +kernel))) | (replace q1 := q1.trans (congrArg (Value.str · _) (show tokText (Str.ofString "number") (Str.ofString "1") = Str.ofString "1" by decide +kernel))) | (replace q1 := q1.trans (congrArg (Value.str · _) (show tokText (Str.ofString "number") (Str.ofString "10") = Str.ofString "10" by decide +kernel))) | (replace q1 := q1.trans (congrArg (Value.str · _) (show tokText (Str.ofString "raw") (Str.ofString "1, 2") = Str.ofString "1, 2" by decide +kernel))) | (replace q1 := q1.trans (congrArg (Value.str · _) (show tokText (Str.ofString "rem") (Str.ofString "A  B") = Str.ofString "REM A  B" by decide +kernel))) | (replace q1 := q1.trans (congrArg (Value.str · _) (show tokText (Str.ofString "sign") (Str.ofString "=") = Str.ofString "=" by decide +kernel))) | (replace q1 := q1.trans (congrArg (Value.str · _) (show tokText (Str.ofString "text") (Str.ofString "X") = Str.ofString "\"X\"" by decide +kernel))) | (replace q1 := q1.trans (congrArg (Value.str · _) (show tokText (Str.ofString "word") (Str.ofString "DATA") = Str.ofString "DATA" by decide +kernel))) | (replace q1 := q1.trans (congrArg (Value.str · _) (show tokText (Str.ofString "word") (Str.ofString "GOTO") = Str.ofString "GOTO" by decide +kernel))) | (replace q1 := q1.trans (congrArg (Value.str · _) (show tokText (Str.ofString "word") (Str.ofString "PRINT") = Str.ofString "PRINT" by decide +kernel)))); (try dsimp only at q1); subst q1 q2; (try dsimp only)))
  k_with "exec For Tuple Call cons nil" => (k_here; (rename Fr _ _ _ _ => lF'); (with_unfolding_all refine' For_turns lF' ?_; k_whole))
  k_with "call ref" => (k_here; (try refine (?_ : wpAny _ (PySem.Around.deeper _ _) _ _ _ _)); (with_reducible show wpAny _ _ (PySem.call (Value.ref 234) _ _) _ _ _); (try k_fold); k_dflt (first | ((refine' Ctr.use0 (c_toks0 _) ?R217.k1 ?R217.k2 ?R217.k3 ?R217.k4 ?R217.k5 ?R217.k6 ?R217.k7 ?R217.k8 ?_); tb_start; intro v' nw' h' tk' F' N' q'; obtain ⟨⟨l, c, T0, a0, b0, T1, a1, b1, q1, ml, m0, m1⟩, qs⟩ := q'; subst q1; (replace N' := (News.consm ml N' (News.consm m0 N' (News.consm m1 N' News.nil)))); clear qs; (try dsimp only)) | ((refine' Ctr.use0 (c_toks1 _) ?R217.k1 ?R217.k2 ?R217.k3 ?R217.k4 ?R217.k5 ?R217.k6 ?R217.k7 ?R217.k8 ?_); tb_start; intro v' nw' h' tk' F' N' q'; obtain ⟨⟨l, c, T0, a0, b0, T1, a1, b1, q1, ml, m0, m1⟩, qs⟩ := q'; subst q1; (replace N' := (News.consm ml N' (News.consm m0 N' (News.consm m1 N' News.nil)))); clear qs; (try dsimp only)) | ((refine' Ctr.use0 (c_toks2 _) ?R217.k1 ?R217.k2 ?R217.k3 ?R217.k4 ?R217.k5 ?R217.k6 ?R217.k7 ?R217.k8 ?_); tb_start; intro v' nw' h' tk' F' N' q'; obtain ⟨⟨l, c, T0, a0, b0, q1, ml, m0⟩, qs⟩ := q'; subst q1; (replace N' := (News.consm ml N' (News.consm m0 N' News.nil))); clear qs; (try dsimp only)) | ((refine' Ctr.use0 (c_toks3 _) ?R217.k1 ?R217.k2 ?R217.k3 ?R217.k4 ?R217.k5 ?R217.k6 ?R217.k7 ?R217.k8 ?_); tb_start; intro v' nw' h' tk' F' N' q'; obtain ⟨⟨l, c, T0, a0, b0, T1, a1, b1, T2, a2, b2, q1, ml, m0, m1, m2⟩, qs⟩ := q'; subst q1; (replace N' := (News.consm ml N' (News.consm m0 N' (News.consm m1 N' (News.consm m2 N' News.nil))))); clear qs; (try dsimp only)) | ((refine' Ctr.use0 (c_toks4 _) ?R217.k1 ?R217.k2 ?R217.k3 ?R217.k4 ?R217.k5 ?R217.k6 ?R217.k7 ?R217.k8 ?_); tb_start; intro v' nw' h' tk' F' N' q'; obtain ⟨⟨l, c, T0, a0, b0, T1, a1, b1, q1, ml, m0, m1⟩, qs⟩ := q'; subst q1; (replace N' := (News.consm ml N' (News.consm m0 N' (News.consm m1 N' News.nil)))); clear qs; (try dsimp only)) | ((refine' Ctr.use0 (c_toks5 _) ?R217.k1 ?R217.k2 ?R217.k3 ?R217.k4 ?R217.k5 ?R217.k6 ?R217.k7 ?R217.k8 ?_); tb_start; intro v' nw' h' tk' F' N' q'; obtain ⟨⟨l, c, T0, a0, b0, T1, a1, b1, q1, ml, m0, m1⟩, qs⟩ := q'; subst q1; (replace N' := (News.consm ml N' (News.consm m0 N' (News.consm m1 N' News.nil)))); clear qs; (try dsimp only))))
  k_with "call ref" => (k_here; (try refine (?_ : wpAny _ (PySem.Around.deeper _ _) _ _ _ _)); (with_reducible show wpAny _ _ (PySem.call (Value.ref 255) _ _) _ _ _); (try k_fold); k_dflt (first | ((refine' Ctr.use0 (c_rowof0 _ _ _ _ _ _ _ _) ?R218.k1 ?R218.k2 ?R218.k3 ?R218.k4 ?R218.k5 ?R218.k6 ?R218.k7 ?R218.k8 ?_); tb_start; intro v' nw' h' tk' F' N' q'; obtain ⟨⟨tq, q1⟩, q2⟩ := q'; subst q1 q2; (try dsimp only)) | ((refine' Ctr.use0 (c_rowof1 _ _ _ _ _ _ _ _) ?R218.k1 ?R218.k2 ?R218.k3 ?R218.k4 ?R218.k5 ?R218.k6 ?R218.k7 ?R218.k8 ?_); tb_start; intro v' nw' h' tk' F' N' q'; obtain ⟨⟨tq, q1⟩, q2⟩ := q'; subst q1 q2; (try dsimp only)) | ((refine' Ctr.use0 (c_rowof2 _ _ _ _ _) ?R218.k1 ?R218.k2 ?R218.k3 ?R218.k4 ?R218.k5 ?R218.k6 ?R218.k7 ?R218.k8 ?_); tb_start; intro v' nw' h' tk' F' N' q'; obtain ⟨⟨tq, q1⟩, q2⟩ := q'; subst q1 q2; (try dsimp only)) | ((refine' Ctr.use0 (c_rowof3 _ _ _ _ _ _ _ _ _ _ _) ?R218.k1 ?R218.k2 ?R218.k3 ?R218.k4 ?R218.k5 ?R218.k6 ?R218.k7 ?R218.k8 ?_); tb_start; intro v' nw' h' tk' F' N' q'; obtain ⟨⟨tq, q1⟩, q2⟩ := q'; subst q1 q2; (try dsimp only)) | ((refine' Ctr.use0 (c_rowof4 _ _ _ _ _ _ _ _) ?R218.k1 ?R218.k2 ?R218.k3 ?R218.k4 ?R218.k5 ?R218.k6 ?R218.k7 ?R218.k8 ?_); tb_start; intro v' nw' h' tk' F' N' q'; obtain ⟨⟨tq, q1⟩, q2⟩ := q'; subst q1 q2; (try dsimp only)) | ((refine' Ctr.use0 (c_rowof5 _ _ _ _ _ _ _ _) ?R218.k1 ?R218.k2 ?R218.k3 ?R218.k4 ?R218.k5 ?R218.k6 ?R218.k7 ?R218.k8 ?_); tb_start; intro v' nw' h' tk' F' N' q'; obtain ⟨⟨tq, q1⟩, q2⟩ := q'; subst q1 q2; (try dsimp only))))
  k_steps
  exact hretQ _ _ _ (by k_asm) (fun p hp => (show Fr g' L' _ _ by with_reducible assumption).keep _ _ (HGK.1 p hp)) ⟨_, rfl⟩

set_option maxHeartbeats 4000000 in
theorem c_canon3 (t : Tok) : Ctr w mean mg mb 262 14 news [.str (Str.ofString "A=1") t] (fun v nw => OneTok (Str.ofString "A=1") v ∧ news = nw) NoExc := by
  intro dp un gd cn cs a ccd cl outer A₀ base h₀ L m s Q E B F X N T hk hd' hu hret hexc
  refine wpAny_call ?_
  k_dflt (refine' code_def0 ?k1 ?k2 ?k3 ?k4 ?k5 ?kA ?kF ?kK ?k6 ?k7 ?k8 ?k9 ?kB ?_ ?c2 ?c3 ?c4 ?c5; (case kA => exact rfl); (case kF => exact rfl); (case kK => assumption); (case k1 => k_asm); (case k2 => k_asm); (case k3 => k_asm); (case k4 => k_asm); (case k5 => k_asm); (case k6 => k_is); (case k7 => k_is); (case k8 => ktr_room); (case k9 => exact BindsTo.of_eq rfl); (case c5 => decide); (case kB => exact locs rfl); (case c2 => exact rfl); (case c3 => exact rfl); (case c4 => exact rfl); k_whole; intro g' L' h' HG' FG' F' N' B' X' T'; (try dsimp only); (try k_lift B'); (try k_fold))
  have hretQ : ∀ v h' tk', Fr h₀ L h' m → (∀ p ∈ news, h'.get? p.1 = some p.2) → OneTok (Str.ofString "A=1") v → Q v { s with heap := h', toks := tk' } := fun v h' tk' F' hg q => hret v news h' tk' F' (fun p hp => ⟨hg p hp, (N p hp).2⟩) ⟨q, rfl⟩
  have HGK := And.intro HG' True.intro
  clear N hret hexc HG'
  w_top off
  k_with_none
  k_with "execs cons" => ((try k_fold); refine wpAny_execs_cons ?_; refine (let sk := _; (?_ : wpAny _ _ _ _ _ sk)))
  k_with "eval Call" => (k_here; (with_reducible show wpAny _ _ (eval (Expr.Call (Expr.Name _ _) _ [] _) _) _ _ _); k_dflt (refine Call_ ?_))
  k_with "exec Raise some none" => (k_here; (refine' raise_B ?_ ?R207.hh); (case hh => k_dflt rfl))
  k_with "call ref" => (k_here; (try refine (?_ : wpAny _ (PySem.Around.deeper _ _) _ _ _ _)); (with_reducible show wpAny _ _ (PySem.call (Value.ref 34) _ _) _ _ _); refine' c_basic ?R208.b1 ?R208.b2 ?R208.b3 ?R208.b4 ?R208.b5 ?R208.b6 ?R208.b7 ?R208.b8 ?R208.b9 ?_; (case b1 => k_asm); (case b2 => k_asm); (case b3 => k_asm); (case b4 => k_asm); (case b5 => k_asm); (case b6 => rfl); (case b7 => rfl); (case b8 => first | rfl | assumption); (case b9 => ktr_room); intro e' dx' oD' ta' h' tk' F' N' d1' d2' d3')
  k_with "RaiseB" => (refine' ⟨_, _, _, rfl, ?R209.r1, ?R209.r2, ?_⟩; (case r1 => exact (News.get (by assumption) (.head _))); (case r2 => exact (Frag.In.keeps (by assumption) (Fr.keep (by assumption))) _ _ (by k_dflt k_is)))
  k_with "leaving ref" => (k_here; first
  | (refine' leave_newB ?R210.k1 ?R210.k2 ?R210.k3 ?R210.k4 ?R210.k5 ?R210.k6 ?_; (case k1 => assumption); (case k2 => assumption); (case k3 => assumption); (case k4 => assumption); (case k5 => assumption); (case k6 => assumption); k_whole; intro h' R' U'; (try dsimp only at R' U' ⊢))
  | (refine' leave_onB ?R210.k1 ?R210.k2 ?R210.k3 ?R210.k4 ?_; (case k3 => assumption); (case k1 => assumption); (case k4 => assumption); (case k2 => assumption); k_whole; intro h' R' U'; (try dsimp only at R' U' ⊢)))
  k_with "ite" => (k_here; first | (refine' iteT ?R211.h ?_; (case h => decide +kernel)) | (refine' iteF ?R211.h ?_; (case h => decide +kernel)))
  k_with "call builtin:str.find" => (k_here; k_dflt (refine c_find4 ?_))
  k_with "subscriptTail Name Name str int" => (k_here; k_dflt (refine item_str (by decide +kernel) (by decide +kernel) (by decide +kernel) ?_); intro _)
  k_with "call ref" => (k_here; (try refine (?_ : wpAny _ (PySem.Around.deeper _ _) _ _ _ _)); (with_reducible show wpAny _ _ (PySem.call (Value.ref 248) _ _) _ _ _); (try k_fold); k_dflt ((first | (refine' Ctr.use0 (c_nb0 _ _ _ _ _ _ ?R214.p1 ?R214.p2) ?R214.k1 ?R214.k2 ?R214.k3 ?R214.k4 ?R214.k5 ?R214.k6 ?R214.k7 ?R214.k8 ?_; tb_start; (case p1 => k_mem); (case p2 => k_mem)) | (refine' Ctr.use0 (c_nb1 _ _ _ _ _ _ ?R214.p1 ?R214.p2) ?R214.k1 ?R214.k2 ?R214.k3 ?R214.k4 ?R214.k5 ?R214.k6 ?R214.k7 ?R214.k8 ?_; tb_start; (case p1 => k_mem); (case p2 => k_mem)) | (refine' Ctr.use0 (c_nb2 _ _ _ _ _ _ ?R214.p1 ?R214.p2) ?R214.k1 ?R214.k2 ?R214.k3 ?R214.k4 ?R214.k5 ?R214.k6 ?R214.k7 ?R214.k8 ?_; tb_start; (case p1 => k_mem); (case p2 => k_mem)) | (refine' Ctr.use0 (c_nb3 _ _ _ _ _ _ ?R214.p1 ?R214.p2) ?R214.k1 ?R214.k2 ?R214.k3 ?R214.k4 ?R214.k5 ?R214.k6 ?R214.k7 ?R214.k8 ?_; tb_start; (case p1 => k_mem); (case p2 => k_mem)) | (refine' Ctr.use0 (c_nb4 _ _ _ _ _ _ ?R214.p1 ?R214.p2) ?R214.k1 ?R214.k2 ?R214.k3 ?R214.k4 ?R214.k5 ?R214.k6 ?R214.k7 ?R214.k8 ?_; tb_start; (case p1 => k_mem); (case p2 => k_mem)) | (refine' Ctr.use0 (c_nb5 _ _ _ _ _ _ ?R214.p1 ?R214.p2) ?R214.k1 ?R214.k2 ?R214.k3 ?R214.k4 ?R214.k5 ?R214.k6 ?R214.k7 ?R214.k8 ?_; tb_start; (case p1 => k_mem); (case p2 => k_mem))); intro v' nw' h' tk' F' N' q'; obtain ⟨q1, q2⟩ := q'; subst q1 q2; (try dsimp only)))
  k_with "call ref" => (k_here; (try refine (?_ : wpAny _ (PySem.Around.deeper _ _) _ _ _ _)); (with_reducible show wpAny _ _ (PySem.call (Value.ref 241) _ _) _ _ _); (try k_fold); k_dflt (refine' Ctr.use0 (c_token_text _ _ _ _ _ _ ?R215.p1 ?R215.p2 ?R215.p3) ?R215.k1 ?R215.k2 ?R215.k3 ?R215.k4 ?R215.k5 ?R215.k6 ?R215.k7 ?R215.k8 ?_; tb_start; (case p3 => k_mem); (case p2 => exact rfl); (case p1 => decide +kernel); intro v' nw' h' tk' F' N' q'; obtain ⟨tq, q1, q2⟩ := q'; (first | (replace q1 := q1.trans (congrArg (Value.str · _) (show tokText (Str.ofString "name") (Str.ofString "A") = Str.ofString "A" by decide +kernel))) | (replace q1 := q1.trans (congrArg (Value.str · _) (show tokText (Str.ofString "number") (Str.ofString "1") = Str.ofString "1" by decide +kernel))) | (replace q1 := q1.trans (congrArg (Value.str · _) (show tokText (Str.ofString "number") (Str.ofString "10") = Str.ofString "10" by decide +kernel))) | (replace q1 := q1.trans (congrArg (Value.str · _) (show tokText (Str.ofString "raw") (Str.ofString "1, 2") = Str.ofString "1, 2" by decide +kernel))) | (replace q1 := q1.trans (congrArg (Value.str · _) (show tokText (Str.ofString "rem") (Str.ofString "A  B") = Str.ofString "REM A  B" by decide +kernel))) | (replace q1 := q1.trans (congrArg (Value.str · _) (show tokText (Str.ofString "sign") (Str.ofString "=") = Str.ofString "=" by decide +kernel))) | (replace q1 := q1.trans (congrArg (Value.str · _) (show tokText (Str.ofString "text") (Str.ofString "X") = Str.ofString "\"X\"" by decide +kernel))) | (replace q1 := q1.trans (congrArg (Value.str · _) (show tokText (Str.ofString "word") (Str.ofString "DATA") = Str.ofString "DATA" by decide +kernel))) | (replace q1 := q1.trans (congrArg (Value.str · _) (show tokText (Str.ofString "word") (Str.ofString "GOTO") = Str.ofString "GOTO" by decide +kernel))) | (replace q1 := q1.trans (congrArg (Value.str · _) (show tokText (Str.ofString "word") (Str.ofString "PRINT") = Str.ofString "PRINT" by decide +kernel)))); (try dsimp only at q1); subst q1 q2; (try dsimp only)))
  k_with "exec For Tuple Call cons nil" => (k_here; (rename Fr _ _ _ _ => lF'); (with_unfolding_all refine' For_turns lF' ?_; k_whole))
  k_with "call ref" => (k_here; (try refine (?_ : wpAny _ (PySem.Around.deeper _ _) _ _ _ _)); (with_reducible show wpAny _ _ (PySem.call (Value.ref 234) _ _) _ _ _); (try k_fold); k_dflt (first | ((refine' Ctr.use0 (c_toks0 _) ?R217.k1 ?R217.k2 ?R217.k3 ?R217.k4 ?R217.k5 ?R217.k6 ?R217.k7 ?R217.k8 ?_); tb_start; intro v' nw' h' tk' F' N' q'; obtain ⟨⟨l, c, T0, a0, b0, T1, a1, b1, q1, ml, m0, m1⟩, qs⟩ := q'; subst q1; (replace N' := (News.consm ml N' (News.consm m0 N' (News.consm m1 N' News.nil)))); clear qs; (try dsimp only)) | ((refine' Ctr.use0 (c_toks1 _) ?R217.k1 ?R217.k2 ?R217.k3 ?R217.k4 ?R217.k5 ?R217.k6 ?R217.k7 ?R217.k8 ?_); tb_start; intro v' nw' h' tk' F' N' q'; obtain ⟨⟨l, c, T0, a0, b0, T1, a1, b1, q1, ml, m0, m1⟩, qs⟩ := q'; subst q1; (replace N' := (News.consm ml N' (News.consm m0 N' (News.consm m1 N' News.nil)))); clear qs; (try dsimp only)) | ((refine' Ctr.use0 (c_toks2 _) ?R217.k1 ?R217.k2 ?R217.k3 ?R217.k4 ?R217.k5 ?R217.k6 ?R217.k7 ?R217.k8 ?_); tb_start; intro v' nw' h' tk' F' N' q'; obtain ⟨⟨l, c, T0, a0, b0, q1, ml, m0⟩, qs⟩ := q'; subst q1; (replace N' := (News.consm ml N' (News.consm m0 N' News.nil))); clear qs; (try dsimp only)) | ((refine' Ctr.use0 (c_toks3 _) ?R217.k1 ?R217.k2 ?R217.k3 ?R217.k4 ?R217.k5 ?R217.k6 ?R217.k7 ?R217.k8 ?_); tb_start; intro v' nw' h' tk' F' N' q'; obtain ⟨⟨l, c, T0, a0, b0, T1, a1, b1, T2, a2, b2, q1, ml, m0, m1, m2⟩, qs⟩ := q'; subst q1; (replace N' := (News.consm ml N' (News.consm m0 N' (News.consm m1 N' (News.consm m2 N' News.nil))))); clear qs; (try dsimp only)) | ((refine' Ctr.use0 (c_toks4 _) ?R217.k1 ?R217.k2 ?R217.k3 ?R217.k4 ?R217.k5 ?R217.k6 ?R217.k7 ?R217.k8 ?_); tb_start; intro v' nw' h' tk' F' N' q'; obtain ⟨⟨l, c, T0, a0, b0, T1, a1, b1, q1, ml, m0, m1⟩, qs⟩ := q'; subst q1; (replace N' := (News.consm ml N' (News.consm m0 N' (News.consm m1 N' News.nil)))); clear qs; (try dsimp only)) | ((refine' Ctr.use0 (c_toks5 _) ?R217.k1 ?R217.k2 ?R217.k3 ?R217.k4 ?R217.k5 ?R217.k6 ?R217.k7 ?R217.k8 ?_); tb_start; intro v' nw' h' tk' F' N' q'; obtain ⟨⟨l, c, T0, a0, b0, T1, a1, b1, q1, ml, m0, m1⟩, qs⟩ := q'; subst q1; (replace N' := (News.consm ml N' (News.consm m0 N' (News.consm m1 N' News.nil)))); clear qs; (try dsimp only))))
  k_with "call ref" => (k_here; (try refine (?_ : wpAny _ (PySem.Around.deeper _ _) _ _ _ _)); (with_reducible show wpAny _ _ (PySem.call (Value.ref 255) _ _) _ _ _); (try k_fold); k_dflt (first | ((refine' Ctr.use0 (c_rowof0 _ _ _ _ _ _ _ _) ?R218.k1 ?R218.k2 ?R218.k3 ?R218.k4 ?R218.k5 ?R218.k6 ?R218.k7 ?R218.k8 ?_); tb_start; intro v' nw' h' tk' F' N' q'; obtain ⟨⟨tq, q1⟩, q2⟩ := q'; subst q1 q2; (try dsimp only)) | ((refine' Ctr.use0 (c_rowof1 _ _ _ _ _ _ _ _) ?R218.k1 ?R218.k2 ?R218.k3 ?R218.k4 ?R218.k5 ?R218.k6 ?R218.k7 ?R218.k8 ?_); tb_start; intro v' nw' h' tk' F' N' q'; obtain ⟨⟨tq, q1⟩, q2⟩ := q'; subst q1 q2; (try dsimp only)) | ((refine' Ctr.use0 (c_rowof2 _ _ _ _ _) ?R218.k1 ?R218.k2 ?R218.k3 ?R218.k4 ?R218.k5 ?R218.k6 ?R218.k7 ?R218.k8 ?_); tb_start; intro v' nw' h' tk' F' N' q'; obtain ⟨⟨tq, q1⟩, q2⟩ := q'; subst q1 q2; (try dsimp only)) | ((refine' Ctr.use0 (c_rowof3 _ _ _ _ _ _ _ _ _ _ _) ?R218.k1 ?R218.k2 ?R218.k3 ?R218.k4 ?R218.k5 ?R218.k6 ?R218.k7 ?R218.k8 ?_); tb_start; intro v' nw' h' tk' F' N' q'; obtain ⟨⟨tq, q1⟩, q2⟩ := q'; subst q1 q2; (try dsimp only)) | ((refine' Ctr.use0 (c_rowof4 _ _ _ _ _ _ _ _) ?R218.k1 ?R218.k2 ?R218.k3 ?R218.k4 ?R218.k5 ?R218.k6 ?R218.k7 ?R218.k8 ?_); tb_start; intro v' nw' h' tk' F' N' q'; obtain ⟨⟨tq, q1⟩, q2⟩ := q'; subst q1 q2; (try dsimp only)) | ((refine' Ctr.use0 (c_rowof5 _ _ _ _ _ _ _ _) ?R218.k1 ?R218.k2 ?R218.k3 ?R218.k4 ?R218.k5 ?R218.k6 ?R218.k7 ?R218.k8 ?_); tb_start; intro v' nw' h' tk' F' N' q'; obtain ⟨⟨tq, q1⟩, q2⟩ := q'; subst q1 q2; (try dsimp only))))
  k_steps
  exact hretQ _ _ _ (by k_asm) (fun p hp => (show Fr g' L' _ _ by with_reducible assumption).keep _ _ (HGK.1 p hp)) ⟨_, rfl⟩

set_option maxHeartbeats 4000000 in
theorem c_canon4 (t : Tok) : Ctr w mean mg mb 262 14 news [.str (Str.ofString "PRINT \"X\"") t] (fun v nw => OneTok (Str.ofString "PRINT \"X\"") v ∧ news = nw) NoExc := by
  intro dp un gd cn cs a ccd cl outer A₀ base h₀ L m s Q E B F X N T hk hd' hu hret hexc
  refine wpAny_call ?_
  k_dflt (refine' code_def0 ?k1 ?k2 ?k3 ?k4 ?k5 ?kA ?kF ?kK ?k6 ?k7 ?k8 ?k9 ?kB ?_ ?c2 ?c3 ?c4 ?c5; (case kA => exact rfl); (case kF => exact rfl); (case kK => assumption); (case k1 => k_asm); (case k2 => k_asm); (case k3 => k_asm); (case k4 => k_asm); (case k5 => k_asm); (case k6 => k_is); (case k7 => k_is); (case k8 => ktr_room); (case k9 => exact BindsTo.of_eq rfl); (case c5 => decide); (case kB => exact locs rfl); (case c2 => exact rfl); (case c3 => exact rfl); (case c4 => exact rfl); k_whole; intro g' L' h' HG' FG' F' N' B' X' T'; (try dsimp only); (try k_lift B'); (try k_fold))
  have hretQ : ∀ v h' tk', Fr h₀ L h' m → (∀ p ∈ news, h'.get? p.1 = some p.2) → OneTok (Str.ofString "PRINT \"X\"") v → Q v { s with heap := h', toks := tk' } := fun v h' tk' F' hg q => hret v news h' tk' F' (fun p hp => ⟨hg p hp, (N p hp).2⟩) ⟨q, rfl⟩
  have HGK := And.intro HG' True.intro
  clear N hret hexc HG'
  w_top off
  k_with_none
  k_with "execs cons" => ((try k_fold); refine wpAny_execs_cons ?_; refine (let sk := _; (?_ : wpAny _ _ _ _ _ sk)))
  k_with "eval Call" => (k_here; (with_reducible show wpAny _ _ (eval (Expr.Call (Expr.Name _ _) _ [] _) _) _ _ _); k_dflt (refine Call_ ?_))
  k_with "exec Raise some none" => (k_here; (refine' raise_B ?_ ?R207.hh); (case hh => k_dflt rfl))
  k_with "call ref" => (k_here; (try refine (?_ : wpAny _ (PySem.Around.deeper _ _) _ _ _ _)); (with_reducible show wpAny _ _ (PySem.call (Value.ref 34) _ _) _ _ _); refine' c_basic ?R208.b1 ?R208.b2 ?R208.b3 ?R208.b4 ?R208.b5 ?R208.b6 ?R208.b7 ?R208.b8 ?R208.b9 ?_; (case b1 => k_asm); (case b2 => k_asm); (case b3 => k_asm); (case b4 => k_asm); (case b5 => k_asm); (case b6 => rfl); (case b7 => rfl); (case b8 => first | rfl | assumption); (case b9 => ktr_room); intro e' dx' oD' ta' h' tk' F' N' d1' d2' d3')
  k_with "RaiseB" => (refine' ⟨_, _, _, rfl, ?R209.r1, ?R209.r2, ?_⟩; (case r1 => exact (News.get (by assumption) (.head _))); (case r2 => exact (Frag.In.keeps (by assumption) (Fr.keep (by assumption))) _ _ (by k_dflt k_is)))
  k_with "leaving ref" => (k_here; first
  | (refine' leave_newB ?R210.k1 ?R210.k2 ?R210.k3 ?R210.k4 ?R210.k5 ?R210.k6 ?_; (case k1 => assumption); (case k2 => assumption); (case k3 => assumption); (case k4 => assumption); (case k5 => assumption); (case k6 => assumption); k_whole; intro h' R' U'; (try dsimp only at R' U' ⊢))
  | (refine' leave_onB ?R210.k1 ?R210.k2 ?R210.k3 ?R210.k4 ?_; (case k3 => assumption); (case k1 => assumption); (case k4 => assumption); (case k2 => assumption); k_whole; intro h' R' U'; (try dsimp only at R' U' ⊢)))
  k_with "ite" => (k_here; first | (refine' iteT ?R211.h ?_; (case h => decide +kernel)) | (refine' iteF ?R211.h ?_; (case h => decide +kernel)))
  k_with "call builtin:str.find" => (k_here; k_dflt (refine c_find4 ?_))
  k_with "subscriptTail Name Name str int" => (k_here; k_dflt (refine item_str (by decide +kernel) (by decide +kernel) (by decide +kernel) ?_); intro _)
  k_with "call ref" => (k_here; (try refine (?_ : wpAny _ (PySem.Around.deeper _ _) _ _ _ _)); (with_reducible show wpAny _ _ (PySem.call (Value.ref 248) _ _) _ _ _); (try k_fold); k_dflt ((first | (refine' Ctr.use0 (c_nb0 _ _ _ _ _ _ ?R214.p1 ?R214.p2) ?R214.k1 ?R214.k2 ?R214.k3 ?R214.k4 ?R214.k5 ?R214.k6 ?R214.k7 ?R214.k8 ?_; tb_start; (case p1 => k_mem); (case p2 => k_mem)) | (refine' Ctr.use0 (c_nb1 _ _ _ _ _ _ ?R214.p1 ?R214.p2) ?R214.k1 ?R214.k2 ?R214.k3 ?R214.k4 ?R214.k5 ?R214.k6 ?R214.k7 ?R214.k8 ?_; tb_start; (case p1 => k_mem); (case p2 => k_mem)) | (refine' Ctr.use0 (c_nb2 _ _ _ _ _ _ ?R214.p1 ?R214.p2) ?R214.k1 ?R214.k2 ?R214.k3 ?R214.k4 ?R214.k5 ?R214.k6 ?R214.k7 ?R214.k8 ?_; tb_start; (case p1 => k_mem); (case p2 => k_mem)) | (refine' Ctr.use0 (c_nb3 _ _ _ _ _ _ ?R214.p1 ?R214.p2) ?R214.k1 ?R214.k2 ?R214.k3 ?R214.k4 ?R214.k5 ?R214.k6 ?R214.k7 ?R214.k8 ?_; tb_start; (case p1 => k_mem); (case p2 => k_mem)) | (refine' Ctr.use0 (c_nb4 _ _ _ _ _ _ ?R214.p1 ?R214.p2) ?R214.k1 ?R214.k2 ?R214.k3 ?R214.k4 ?R214.k5 ?R214.k6 ?R214.k7 ?R214.k8 ?_; tb_start; (case p1 => k_mem); (case p2 => k_mem)) | (refine' Ctr.use0 (c_nb5 _ _ _ _ _ _ ?R214.p1 ?R214.p2) ?R214.k1 ?R214.k2 ?R214.k3 ?R214.k4 ?R214.k5 ?R214.k6 ?R214.k7 ?R214.k8 ?_; tb_start; (case p1 => k_mem); (case p2 => k_mem))); intro v' nw' h' tk' F' N' q'; obtain ⟨q1, q2⟩ := q'; subst q1 q2; (try dsimp only)))
  k_with "call ref" => (k_here; (try refine (?_ : wpAny _ (PySem.Around.deeper _ _) _ _ _ _)); (with_reducible show wpAny _ _ (PySem.call (Value.ref 241) _ _) _ _ _); (try k_fold); k_dflt (refine' Ctr.use0 (c_token_text _ _ _ _ _ _ ?R215.p1 ?R215.p2 ?R215.p3) ?R215.k1 ?R215.k2 ?R215.k3 ?R215.k4 ?R215.k5 ?R215.k6 ?R215.k7 ?R215.k8 ?_; tb_start; (case p3 => k_mem); (case p2 => exact rfl); (case p1 => decide +kernel); intro v' nw' h' tk' F' N' q'; obtain ⟨tq, q1, q2⟩ := q'; (first | (replace q1 := q1.trans (congrArg (Value.str · _) (show tokText (Str.ofString "name") (Str.ofString "A") = Str.ofString "A" by decide +kernel))) | (replace q1 := q1.trans (congrArg (Value.str · _) (show tokText (Str.ofString "number") (Str.ofString "1") = Str.ofString "1" by decide +kernel))) | (replace q1 := q1.trans (congrArg (Value.str · _) (show tokText (Str.ofString "number") (Str.ofString "10") = Str.ofString "10" by decide +kernel))) | (replace q1 := q1.trans (congrArg (Value.str · _) (show tokText (Str.ofString "raw") (Str.ofString "1, 2") = Str.ofString "1, 2" by decide +kernel))) | (replace q1 := q1.trans (congrArg (Value.str · _) (show tokText (Str.ofString "rem") (Str.ofString "A  B") = Str.ofString "REM A  B" by decide +kernel))) | (replace q1 := q1.trans (congrArg (Value.str · _) (show tokText (Str.ofString "sign") (Str.ofString "=") = Str.ofString "=" by decide +kernel))) | (replace q1 := q1.trans (congrArg (Value.str · _) (show tokText (Str.ofString "text") (Str.ofString "X") = Str.ofString "\"X\"" by decide +kernel))) | (replace q1 := q1.trans (congrArg (Value.str · _) (show tokText (Str.ofString "word") (Str.ofString "DATA") = Str.ofString "DATA" by decide +kernel))) | (replace q1 := q1.trans (congrArg (Value.str · _) (show tokText (Str.ofString "word") (Str.ofString "GOTO") = Str.ofString "GOTO" by decide +kernel))) | (replace q1 := q1.trans (congrArg (Value.str · _) (show tokText (Str.ofString "word") (Str.ofString "PRINT") = Str.ofString "PRINT" by decide +kernel)))); (try dsimp only at q1); subst q1 q2; (try dsimp only)))
  k_with "exec For Tuple Call cons nil" => (k_here; (rename Fr _ _ _ _ => lF'); (with_unfolding_all refine' For_turns lF' ?_; k_whole))
  k_with "call ref" => (k_here; (try refine (?_ : wpAny _ (PySem.Around.deeper _ _) _ _ _ _)); (with_reducible show wpAny _ _ (PySem.call (Value.ref 234) _ _) _ _ _); (try k_fold); k_dflt (first | ((refine' Ctr.use0 (c_toks0 _) ?R217.k1 ?R217.k2 ?R217.k3 ?R217.k4 ?R217.k5 ?R217.k6 ?R217.k7 ?R217.k8 ?_); tb_start; intro v' nw' h' tk' F' N' q'; obtain ⟨⟨l, c, T0, a0, b0, T1, a1, b1, q1, ml, m0, m1⟩, qs⟩ := q'; subst q1; (replace N' := (News.consm ml N' (News.consm m0 N' (News.consm m1 N' News.nil)))); clear qs; (try dsimp only)) | ((refine' Ctr.use0 (c_toks1 _) ?R217.k1 ?R217.k2 ?R217.k3 ?R217.k4 ?R217.k5 ?R217.k6 ?R217.k7 ?R217.k8 ?_); tb_start; intro v' nw' h' tk' F' N' q'; obtain ⟨⟨l, c, T0, a0, b0, T1, a1, b1, q1, ml, m0, m1⟩, qs⟩ := q'; subst q1; (replace N' := (News.consm ml N' (News.consm m0 N' (News.consm m1 N' News.nil)))); clear qs; (try dsimp only)) | ((refine' Ctr.use0 (c_toks2 _) ?R217.k1 ?R217.k2 ?R217.k3 ?R217.k4 ?R217.k5 ?R217.k6 ?R217.k7 ?R217.k8 ?_); tb_start; intro v' nw' h' tk' F' N' q'; obtain ⟨⟨l, c, T0, a0, b0, q1, ml, m0⟩, qs⟩ := q'; subst q1; (replace N' := (News.consm ml N' (News.consm m0 N' News.nil))); clear qs; (try dsimp only)) | ((refine' Ctr.use0 (c_toks3 _) ?R217.k1 ?R217.k2 ?R217.k3 ?R217.k4 ?R217.k5 ?R217.k6 ?R217.k7 ?R217.k8 ?_); tb_start; intro v' nw' h' tk' F' N' q'; obtain ⟨⟨l, c, T0, a0, b0, T1, a1, b1, T2, a2, b2, q1, ml, m0, m1, m2⟩, qs⟩ := q'; subst q1; (replace N' := (News.consm ml N' (News.consm m0 N' (News.consm m1 N' (News.consm m2 N' News.nil))))); clear qs; (try dsimp only)) | ((refine' Ctr.use0 (c_toks4 _) ?R217.k1 ?R217.k2 ?R217.k3 ?R217.k4 ?R217.k5 ?R217.k6 ?R217.k7 ?R217.k8 ?_); tb_start; intro v' nw' h' tk' F' N' q'; obtain ⟨⟨l, c, T0, a0, b0, T1, a1, b1, q1, ml, m0, m1⟩, qs⟩ := q'; subst q1; (replace N' := (News.consm ml N' (News.consm m0 N' (News.consm m1 N' News.nil)))); clear qs; (try dsimp only)) | ((refine' Ctr.use0 (c_toks5 _) ?R217.k1 ?R217.k2 ?R217.k3 ?R217.k4 ?R217.k5 ?R217.k6 ?R217.k7 ?R217.k8 ?_); tb_start; intro v' nw' h' tk' F' N' q'; obtain ⟨⟨l, c, T0, a0, b0, T1, a1, b1, q1, ml, m0, m1⟩, qs⟩ := q'; subst q1; (replace N' := (News.consm ml N' (News.consm m0 N' (News.consm m1 N' News.nil)))); clear qs; (try dsimp only))))
  k_with "call ref" => (k_here; (try refine (?_ : wpAny _ (PySem.Around.deeper _ _) _ _ _ _)); (with_reducible show wpAny _ _ (PySem.call (Value.ref 255) _ _) _ _ _); (try k_fold); k_dflt (first | ((refine' Ctr.use0 (c_rowof0 _ _ _ _ _ _ _ _) ?R218.k1 ?R218.k2 ?R218.k3 ?R218.k4 ?R218.k5 ?R218.k6 ?R218.k7 ?R218.k8 ?_); tb_start; intro v' nw' h' tk' F' N' q'; obtain ⟨⟨tq, q1⟩, q2⟩ := q'; subst q1 q2; (try dsimp only)) | ((refine' Ctr.use0 (c_rowof1 _ _ _ _ _ _ _ _) ?R218.k1 ?R218.k2 ?R218.k3 ?R218.k4 ?R218.k5 ?R218.k6 ?R218.k7 ?R218.k8 ?_); tb_start; intro v' nw' h' tk' F' N' q'; obtain ⟨⟨tq, q1⟩, q2⟩ := q'; subst q1 q2; (try dsimp only)) | ((refine' Ctr.use0 (c_rowof2 _ _ _ _ _) ?R218.k1 ?R218.k2 ?R218.k3 ?R218.k4 ?R218.k5 ?R218.k6 ?R218.k7 ?R218.k8 ?_); tb_start; intro v' nw' h' tk' F' N' q'; obtain ⟨⟨tq, q1⟩, q2⟩ := q'; subst q1 q2; (try dsimp only)) | ((refine' Ctr.use0 (c_rowof3 _ _ _ _ _ _ _ _ _ _ _) ?R218.k1 ?R218.k2 ?R218.k3 ?R218.k4 ?R218.k5 ?R218.k6 ?R218.k7 ?R218.k8 ?_); tb_start; intro v' nw' h' tk' F' N' q'; obtain ⟨⟨tq, q1⟩, q2⟩ := q'; subst q1 q2; (try dsimp only)) | ((refine' Ctr.use0 (c_rowof4 _ _ _ _ _ _ _ _) ?R218.k1 ?R218.k2 ?R218.k3 ?R218.k4 ?R218.k5 ?R218.k6 ?R218.k7 ?R218.k8 ?_); tb_start; intro v' nw' h' tk' F' N' q'; obtain ⟨⟨tq, q1⟩, q2⟩ := q'; subst q1 q2; (try dsimp only)) | ((refine' Ctr.use0 (c_rowof5 _ _ _ _ _ _ _ _) ?R218.k1 ?R218.k2 ?R218.k3 ?R218.k4 ?R218.k5 ?R218.k6 ?R218.k7 ?R218.k8 ?_); tb_start; intro v' nw' h' tk' F' N' q'; obtain ⟨⟨tq, q1⟩, q2⟩ := q'; subst q1 q2; (try dsimp only))))
  k_steps
  exact hretQ _ _ _ (by k_asm) (fun p hp => (show Fr g' L' _ _ by with_reducible assumption).keep _ _ (HGK.1 p hp)) ⟨_, rfl⟩

set_option maxHeartbeats 4000000 in
theorem c_canon5 (t : Tok) : Ctr w mean mg mb 262 14 news [.str (Str.ofString "DATA 1, 2") t] (fun v nw => OneTok (Str.ofString "DATA 1, 2") v ∧ news = nw) NoExc := by
  intro dp un gd cn cs a ccd cl outer A₀ base h₀ L m s Q E B F X N T hk hd' hu hret hexc
  refine wpAny_call ?_
  k_dflt (refine' code_def0 ?k1 ?k2 ?k3 ?k4 ?k5 ?kA ?kF ?kK ?k6 ?k7 ?k8 ?k9 ?kB ?_ ?c2 ?c3 ?c4 ?c5; (case kA => exact rfl); (case kF => exact rfl); (case kK => assumption); (case k1 => k_asm); (case k2 => k_asm); (case k3 => k_asm); (case k4 => k_asm); (case k5 => k_asm); (case k6 => k_is); (case k7 => k_is); (case k8 => ktr_room); (case k9 => exact BindsTo.of_eq rfl); (case c5 => decide); (case kB => exact locs rfl); (case c2 => exact rfl); (case c3 => exact rfl); (case c4 => exact rfl); k_whole; intro g' L' h' HG' FG' F' N' B' X' T'; (try dsimp only); (try k_lift B'); (try k_fold))
  have hretQ : ∀ v h' tk', Fr h₀ L h' m → (∀ p ∈ news, h'.get? p.1 = some p.2) → OneTok (Str.ofString "DATA 1, 2") v → Q v { s with heap := h', toks := tk' } := fun v h' tk' F' hg q => hret v news h' tk' F' (fun p hp => ⟨hg p hp, (N p hp).2⟩) ⟨q, rfl⟩
  have HGK := And.intro HG' True.intro
  clear N hret hexc HG'
  w_top off
  k_with_none
  k_with "execs cons" => ((try k_fold); refine wpAny_execs_cons ?_; refine (let sk := _; (?_ : wpAny _ _ _ _ _ sk)))
  k_with "eval Call" => (k_here; (with_reducible show wpAny _ _ (eval (Expr.Call (Expr.Name _ _) _ [] _) _) _ _ _); k_dflt (refine Call_ ?_))
  k_with "exec Raise some none" => (k_here; (refine' raise_B ?_ ?R207.hh); (case hh => k_dflt rfl))
  k_with "call ref" => (k_here; (try refine (?_ : wpAny _ (PySem.Around.deeper _ _) _ _ _ _)); (with_reducible show wpAny _ _ (PySem.call (Value.ref 34) _ _) _ _ _); refine' c_basic ?R208.b1 ?R208.b2 ?R208.b3 ?R208.b4 ?R208.b5 ?R208.b6 ?R208.b7 ?R208.b8 ?R208.b9 ?_; (case b1 => k_asm); (case b2 => k_asm); (case b3 => k_asm); (case b4 => k_asm); (case b5 => k_asm); (case b6 => rfl); (case b7 => rfl); (case b8 => first | rfl | assumption); (case b9 => ktr_room); intro e' dx' oD' ta' h' tk' F' N' d1' d2' d3')
  k_with "RaiseB" => (refine' ⟨_, _, _, rfl, ?R209.r1, ?R209.r2, ?_⟩; (case r1 => exact (News.get (by assumption) (.head _))); (case r2 => exact (Frag.In.keeps (by assumption) (Fr.keep (by assumption))) _ _ (by k_dflt k_is)))
  k_with "leaving ref" => (k_here; first
  | (refine' leave_newB ?R210.k1 ?R210.k2 ?R210.k3 ?R210.k4 ?R210.k5 ?R210.k6 ?_; (case k1 => assumption); (case k2 => assumption); (case k3 => assumption); (case k4 => assumption); (case k5 => assumption); (case k6 => assumption); k_whole; intro h' R' U'; (try dsimp only at R' U' ⊢))
  | (refine' leave_onB ?R210.k1 ?R210.k2 ?R210.k3 ?R210.k4 ?_; (case k3 => assumption); (case k1 => assumption); (case k4 => assumption); (case k2 => assumption); k_whole; intro h' R' U'; (try dsimp only at R' U' ⊢)))
  k_with "ite" => (k_here; first | (refine' iteT ?R211.h ?_; (case h => decide +kernel)) | (refine' iteF ?R211.h ?_; (case h => decide +kernel)))
  k_with "call builtin:str.find" => (k_here; k_dflt (refine c_find4 ?_))
  k_with "subscriptTail Name Name str int" => (k_here; k_dflt (refine item_str (by decide +kernel) (by decide +kernel) (by decide +kernel) ?_); intro _)
  k_with "call ref" => (k_here; (try refine (?_ : wpAny _ (PySem.Around.deeper _ _) _ _ _ _)); (with_reducible show wpAny _ _ (PySem.call (Value.ref 248) _ _) _ _ _); (try k_fold); k_dflt ((first | (refine' Ctr.use0 (c_nb0 _ _ _ _ _ _ ?R214.p1 ?R214.p2) ?R214.k1 ?R214.k2 ?R214.k3 ?R214.k4 ?R214.k5 ?R214.k6 ?R214.k7 ?R214.k8 ?_; tb_start; (case p1 => k_mem); (case p2 => k_mem)) | (refine' Ctr.use0 (c_nb1 _ _ _ _ _ _ ?R214.p1 ?R214.p2) ?R214.k1 ?R214.k2 ?R214.k3 ?R214.k4 ?R214.k5 ?R214.k6 ?R214.k7 ?R214.k8 ?_; tb_start; (case p1 => k_mem); (case p2 => k_mem)) | (refine' Ctr.use0 (c_nb2 _ _ _ _ _ _ ?R214.p1 ?R214.p2) ?R214.k1 ?R214.k2 ?R214.k3 ?R214.k4 ?R214.k5 ?R214.k6 ?R214.k7 ?R214.k8 ?_; tb_start; (case p1 => k_mem); (case p2 => k_mem)) | (refine' Ctr.use0 (c_nb3 _ _ _ _ _ _ ?R214.p1 ?R214.p2) ?R214.k1 ?R214.k2 ?R214.k3 ?R214.k4 ?R214.k5 ?R214.k6 ?R214.k7 ?R214.k8 ?_; tb_start; (case p1 => k_mem); (case p2 => k_mem)) | (refine' Ctr.use0 (c_nb4 _ _ _ _ _ _ ?R214.p1 ?R214.p2) ?R214.k1 ?R214.k2 ?R214.k3 ?R214.k4 ?R214.k5 ?R214.k6 ?R214.k7 ?R214.k8 ?_; tb_start; (case p1 => k_mem); (case p2 => k_mem)) | (refine' Ctr.use0 (c_nb5 _ _ _ _ _ _ ?R214.p1 ?R214.p2) ?R214.k1 ?R214.k2 ?R214.k3 ?R214.k4 ?R214.k5 ?R214.k6 ?R214.k7 ?R214.k8 ?_; tb_start; (case p1 => k_mem); (case p2 => k_mem))); intro v' nw' h' tk' F' N' q'; obtain ⟨q1, q2⟩ := q'; subst q1 q2; (try dsimp only)))
  k_with "call ref" => (k_here; (try refine (?_ : wpAny _ (PySem.Around.deeper _ _) _ _ _ _)); (with_reducible show wpAny _ _ (PySem.call (Value.ref 241) _ _) _ _ _); (try k_fold); k_dflt (refine' Ctr.use0 (c_token_text _ _ _ _ _ _ ?R215.p1 ?R215.p2 ?R215.p3) ?R215.k1 ?R215.k2 ?R215.k3 ?R215.k4 ?R215.k5 ?R215.k6 ?R215.k7 ?R215.k8 ?_; tb_start; (case p3 => k_mem); (case p2 => exact rfl); (case p1 => decide +kernel); intro v' nw' h' tk' F' N' q'; obtain ⟨tq, q1, q2⟩ := q'; (first | (replace q1 := q1.trans (congrArg (Value.str · _) (show tokText (Str.ofString "name") (Str.ofString "A") = Str.ofString "A" by decide +kernel))) | (replace q1 := q1.trans (congrArg (Value.str · _) (show tokText (Str.ofString "number") (Str.ofString "1") = Str.ofString "1" by decide +kernel))) | (replace q1 := q1.trans (congrArg (Value.str · _) (show tokText (Str.ofString "number") (Str.ofString "10") = Str.ofString "10" by decide +kernel))) | (replace q1 := q1.trans (congrArg (Value.str · _) (show tokText (Str.ofString "raw") (Str.ofString "1, 2") = Str.ofString "1, 2" by decide +kernel))) | (replace q1 := q1.trans (congrArg (Value.str · _) (show tokText (Str.ofString "rem") (Str.ofString "A  B") = Str.ofString "REM A  B" by decide +kernel))) | (replace q1 := q1.trans (congrArg (Value.str · _) (show tokText (Str.ofString "sign") (Str.ofString "=") = Str.ofString "=" by decide +kernel))) | (replace q1 := q1.trans (congrArg (Value.str · _) (show tokText (Str.ofString "text") (Str.ofString "X") = Str.ofString "\"X\"" by decide +kernel))) | (replace q1 := q1.trans (congrArg (Value.str · _) (show tokText (Str.ofString "word") (Str.ofString "DATA") = Str.ofString "DATA" by decide +kernel))) | (replace q1 := q1.trans (congrArg (Value.str · _) (show tokText (Str.ofString "word") (Str.ofString "GOTO") = Str.ofString "GOTO" by decide +kernel))) | (replace q1 := q1.trans (congrArg (Value.str · _) (show tokText (Str.ofString "word") (Str.ofString "PRINT") = Str.ofString "PRINT" by decide +kernel)))); (try dsimp only at q1); subst q1 q2; (try dsimp only)))
  k_with "exec For Tuple Call cons nil" => (k_here; (rename Fr _ _ _ _ => lF'); (with_unfolding_all refine' For_turns lF' ?_; k_whole))
  k_with "call ref" => (k_here; (try refine (?_ : wpAny _ (PySem.Around.deeper _ _) _ _ _ _)); (with_reducible show wpAny _ _ (PySem.call (Value.ref 234) _ _) _ _ _); (try k_fold); k_dflt (first | ((refine' Ctr.use0 (c_toks0 _) ?R217.k1 ?R217.k2 ?R217.k3 ?R217.k4 ?R217.k5 ?R217.k6 ?R217.k7 ?R217.k8 ?_); tb_start; intro v' nw' h' tk' F' N' q'; obtain ⟨⟨l, c, T0, a0, b0, T1, a1, b1, q1, ml, m0, m1⟩, qs⟩ := q'; subst q1; (replace N' := (News.consm ml N' (News.consm m0 N' (News.consm m1 N' News.nil)))); clear qs; (try dsimp only)) | ((refine' Ctr.use0 (c_toks1 _) ?R217.k1 ?R217.k2 ?R217.k3 ?R217.k4 ?R217.k5 ?R217.k6 ?R217.k7 ?R217.k8 ?_); tb_start; intro v' nw' h' tk' F' N' q'; obtain ⟨⟨l, c, T0, a0, b0, T1, a1, b1, q1, ml, m0, m1⟩, qs⟩ := q'; subst q1; (replace N' := (News.consm ml N' (News.consm m0 N' (News.consm m1 N' News.nil)))); clear qs; (try dsimp only)) | ((refine' Ctr.use0 (c_toks2 _) ?R217.k1 ?R217.k2 ?R217.k3 ?R217.k4 ?R217.k5 ?R217.k6 ?R217.k7 ?R217.k8 ?_); tb_start; intro v' nw' h' tk' F' N' q'; obtain ⟨⟨l, c, T0, a0, b0, q1, ml, m0⟩, qs⟩ := q'; subst q1; (replace N' := (News.consm ml N' (News.consm m0 N' News.nil))); clear qs; (try dsimp only)) | ((refine' Ctr.use0 (c_toks3 _) ?R217.k1 ?R217.k2 ?R217.k3 ?R217.k4 ?R217.k5 ?R217.k6 ?R217.k7 ?R217.k8 ?_); tb_start; intro v' nw' h' tk' F' N' q'; obtain ⟨⟨l, c, T0, a0, b0, T1, a1, b1, T2, a2, b2, q1, ml, m0, m1, m2⟩, qs⟩ := q'; subst q1; (replace N' := (News.consm ml N' (News.consm m0 N' (News.consm m1 N' (News.consm m2 N' News.nil))))); clear qs; (try dsimp only)) | ((refine' Ctr.use0 (c_toks4 _) ?R217.k1 ?R217.k2 ?R217.k3 ?R217.k4 ?R217.k5 ?R217.k6 ?R217.k7 ?R217.k8 ?_); tb_start; intro v' nw' h' tk' F' N' q'; obtain ⟨⟨l, c, T0, a0, b0, T1, a1, b1, q1, ml, m0, m1⟩, qs⟩ := q'; subst q1; (replace N' := (News.consm ml N' (News.consm m0 N' (News.consm m1 N' News.nil)))); clear qs; (try dsimp only)) | ((refine' Ctr.use0 (c_toks5 _) ?R217.k1 ?R217.k2 ?R217.k3 ?R217.k4 ?R217.k5 ?R217.k6 ?R217.k7 ?R217.k8 ?_); tb_start; intro v' nw' h' tk' F' N' q'; obtain ⟨⟨l, c, T0, a0, b0, T1, a1, b1, q1, ml, m0, m1⟩, qs⟩ := q'; subst q1; (replace N' := (News.consm ml N' (News.consm m0 N' (News.consm m1 N' News.nil)))); clear qs; (try dsimp only))))
  k_with "call ref" => (k_here; (try refine (?_ : wpAny _ (PySem.Around.deeper _ _) _ _ _ _)); (with_reducible show wpAny _ _ (PySem.call (Value.ref 255) _ _) _ _ _); (try k_fold); k_dflt (first | ((refine' Ctr.use0 (c_rowof0 _ _ _ _ _ _ _ _) ?R218.k1 ?R218.k2 ?R218.k3 ?R218.k4 ?R218.k5 ?R218.k6 ?R218.k7 ?R218.k8 ?_); tb_start; intro v' nw' h' tk' F' N' q'; obtain ⟨⟨tq, q1⟩, q2⟩ := q'; subst q1 q2; (try dsimp only)) | ((refine' Ctr.use0 (c_rowof1 _ _ _ _ _ _ _ _) ?R218.k1 ?R218.k2 ?R218.k3 ?R218.k4 ?R218.k5 ?R218.k6 ?R218.k7 ?R218.k8 ?_); tb_start; intro v' nw' h' tk' F' N' q'; obtain ⟨⟨tq, q1⟩, q2⟩ := q'; subst q1 q2; (try dsimp only)) | ((refine' Ctr.use0 (c_rowof2 _ _ _ _ _) ?R218.k1 ?R218.k2 ?R218.k3 ?R218.k4 ?R218.k5 ?R218.k6 ?R218.k7 ?R218.k8 ?_); tb_start; intro v' nw' h' tk' F' N' q'; obtain ⟨⟨tq, q1⟩, q2⟩ := q'; subst q1 q2; (try dsimp only)) | ((refine' Ctr.use0 (c_rowof3 _ _ _ _ _ _ _ _ _ _ _) ?R218.k1 ?R218.k2 ?R218.k3 ?R218.k4 ?R218.k5 ?R218.k6 ?R218.k7 ?R218.k8 ?_); tb_start; intro v' nw' h' tk' F' N' q'; obtain ⟨⟨tq, q1⟩, q2⟩ := q'; subst q1 q2; (try dsimp only)) | ((refine' Ctr.use0 (c_rowof4 _ _ _ _ _ _ _ _) ?R218.k1 ?R218.k2 ?R218.k3 ?R218.k4 ?R218.k5 ?R218.k6 ?R218.k7 ?R218.k8 ?_); tb_start; intro v' nw' h' tk' F' N' q'; obtain ⟨⟨tq, q1⟩, q2⟩ := q'; subst q1 q2; (try dsimp only)) | ((refine' Ctr.use0 (c_rowof5 _ _ _ _ _ _ _ _) ?R218.k1 ?R218.k2 ?R218.k3 ?R218.k4 ?R218.k5 ?R218.k6 ?R218.k7 ?R218.k8 ?_); tb_start; intro v' nw' h' tk' F' N' q'; obtain ⟨⟨tq, q1⟩, q2⟩ := q'; subst q1 q2; (try dsimp only))))
  k_steps
  exact hretQ _ _ _ (by k_asm) (fun p hp => (show Fr g' L' _ _ by with_reducible assumption).keep _ _ (HGK.1 p hp)) ⟨_, rfl⟩

theorem canW : CanW w mean mg mb := fun z hz t news => by
  rcases List.mem_cons.mp hz with rfl | hz
  · exact c_canon0 t
  rcases List.mem_cons.mp hz with rfl | hz
  · exact c_canon1 t
  rcases List.mem_cons.mp hz with rfl | hz
  · exact c_canon2 t
  rcases List.mem_cons.mp hz with rfl | hz
  · exact c_canon3 t
  rcases List.mem_cons.mp hz with rfl | hz
  · exact c_canon4 t
  rcases List.mem_cons.mp hz with rfl | hz
  · exact c_canon5 t
  cases hz

end
end Mine

end
section
open PySem PySem.W PyProof.Rows PySem.Calls
set_option Elab.async false
set_option linter.all false
set_option maxRecDepth 100000
set_option rowWalk.seconds 0
namespace Mine
section
variable {w : World} {mean : ExcName → Option Value} {mg mb : Str → Option Value} {news : Led}


theorem News.rot {h₀ h : Heap} {L : Addr} {a b c : Addr × Obj} {l : Led} (N : News h₀ L h (a :: b :: c :: l)) : News h₀ L h (b :: c :: a :: l) := fun p hp => N p (by
  simp only [List.mem_cons] at hp ⊢
  rcases hp with h | h | h | h
  · exact .inr (.inl h)
  · exact .inr (.inr (.inl h))
  · exact .inl h
  · exact .inr (.inr (.inr h)))
theorem News.rot2 {h₀ h : Heap} {L : Addr} {a d b c : Addr × Obj} {l : Led} (N : News h₀ L h (a :: d :: b :: c :: l)) : News h₀ L h (b :: c :: a :: d :: l) := fun p hp => N p (by
  simp only [List.mem_cons] at hp ⊢
  rcases hp with h | h | h | h | h
  · exact .inr (.inr (.inl h))
  · exact .inr (.inr (.inr (.inl h)))
  · exact .inl h
  · exact .inr (.inl h)
  · exact .inr (.inr (.inr (.inr h))))
theorem lt_ne' {j l : Addr} (h : j < l) : l ≠ j := fun e => Nat.lt_irrefl j (by rw [e] at h; exact h)
theorem jar_ne2 {j cl a b c : Addr} {o1 oa ob oc : Obj} {news : Led} (h : ∀ p ∈ (cl, o1) :: news, p.1 ≠ j) (h1 : j < b ∧ cl < b ∧ c < b ∧ AllLt b news) (h2 : b < a ∧ j < a ∧ cl < a ∧ c < a ∧ AllLt a news) (h3 : j < c ∧ cl < c ∧ AllLt c news) : ∀ p ∈ (cl, o1) :: (a, oa) :: (b, ob) :: (c, oc) :: news, p.1 ≠ j := fun p hp => by
  simp only [List.mem_cons] at hp
  rcases hp with e | e | e | e | e
  · exact h p (by rw [e]; exact .head _)
  · subst e; exact lt_ne' h2.2.1
  · subst e; exact lt_ne' h1.1
  · subst e; exact lt_ne' h3.1
  · exact h p (.tail _ e)
theorem jar_ne {j cl l : Addr} {o1 o2 : Obj} {news : Led} (h : ∀ p ∈ (cl, o1) :: news, p.1 ≠ j) (h1 : j < l ∧ cl < l ∧ AllLt l news) : ∀ p ∈ (cl, o1) :: (l, o2) :: news, p.1 ≠ j := fun p hp => by
  simp only [List.mem_cons] at hp
  rcases hp with e | e | e
  · exact h p (by rw [e]; exact .head _)
  · subst e; exact fun e => Nat.lt_irrefl _ (show (j : Nat) < j by have := h1.1; rw [show l = j from e] at this; exact this)
  · exact h p (.tail _ e)

theorem fmod3 (n : Int) : 0 ≤ n.fmod 3 ∧ n.fmod 3 < 3 := ⟨Int.fmod_nonneg_of_pos _ (by decide), Int.fmod_lt_of_pos _ (by decide)⟩
theorem fmod4 (n : Int) : 0 ≤ n.fmod 4 ∧ n.fmod 4 < 4 := ⟨Int.fmod_nonneg_of_pos _ (by decide), Int.fmod_lt_of_pos _ (by decide)⟩
theorem form_facts {n : Int} (h : 0 ≤ n) (h8 : n < 8) : (0 ≤ n.fdiv 7 ∧ n.fdiv 7 ≤ 1) ∧ (0 ≤ (n.fdiv 6).fmod 2 ∧ (n.fdiv 6).fmod 2 < 2) ∧ (0 ≤ (n.fdiv 5).fmod 2 ∧ (n.fdiv 5).fmod 2 < 2) := by
  have : n = 0 ∨ n = 1 ∨ n = 2 ∨ n = 3 ∨ n = 4 ∨ n = 5 ∨ n = 6 ∨ n = 7 := by omega
  rcases this with rfl | rfl | rfl | rfl | rfl | rfl | rfl | rfl <;> decide
def numAt (n : Int) : Int := [10, 20, 20, 65529, 0].getD n.toNat 0
structure NumIs (n N : Int) : Prop where
  is : N = numAt n
structure ToldIs (c : Int) (W : Str) : Prop where
  is : W = tolds.getD c.toNat Str.empty
theorem num_lo {n : Int} (h0 : 0 ≤ n) (h1 : n < 5) : 0 ≤ numAt n ∧ numAt n ≤ 65529 := by
  have : n = 0 ∨ n = 1 ∨ n = 2 ∨ n = 3 ∨ n = 4 := by omega
  rcases this with rfl | rfl | rfl | rfl | rfl <;> decide
theorem told_len {n : Int} (h0 : 0 ≤ n) (h1 : n < 6) : (tolds.getD n.toNat Str.empty).length ≤ 10 := by
  have : n = 0 ∨ n = 1 ∨ n = 2 ∨ n = 3 ∨ n = 4 ∨ n = 5 := by omega
  rcases this with rfl | rfl | rfl | rfl | rfl | rfl <;> decide +kernel
section
variable {prog : Program} {w : World} {A : Around} {E : Value → Shared → Prop} {s : Shared} {value slice : PySem.Expr} {l : Addr} {vs : List Value} {i : Int} {u : Tok} {Q : Value → Shared → Prop}
open PySem.NumText in
theorem num_item {a b c d e : Tok} (hl : s.heap.IsList l #[.int 10 a, .int 20 b, .int 20 c, .int 65529 d, .int 0 e]) (h0 : 0 ≤ i) (h1 : i < 5) (h : ∀ N t, NumIs i N → 0 ≤ N → N ≤ 65529 → Q (.int N t) s)
    (hs : subscripted slice false (.ref l) (.int i u) = operate [.ref l, .int i u] (getItem (.ref l) (.int i u)) := by with_unfolding_all rfl) :
    wpAny (model prog w) A (subscriptTail value slice (.ref l) (.int i u)) Q E s := by
  have : i = 0 ∨ i = 1 ∨ i = 2 ∨ i = 3 ∨ i = 4 := by omega
  have hb := num_lo h0 h1
  have k : ∀ t, Q (.int (numAt i) t) s := fun t => h _ t ⟨rfl⟩ hb.1 hb.2
  rcases this with rfl | rfl | rfl | rfl | rfl
  all_goals exact tail_any hl.typeIs slot_list_getitem.lookup (wpAny_getItem_list hl (by decide) (by decide) rfl (k _)) hs
theorem told_item (hl : s.heap.IsList l vs.toArray) (hw : StrsAre vs tolds) (h0 : 0 ≤ i) (h1 : i < 6) (h : ∀ W t', ToldIs i W → W.length ≤ 10 → Q (.str W t') s)
    (hs : subscripted slice false (.ref l) (.int i u) = operate [.ref l, .int i u] (getItem (.ref l) (.int i u)) := by with_unfolding_all rfl) :
    wpAny (model prog w) A (subscriptTail value slice (.ref l) (.int i u)) Q E s :=
  KTb.item_list hl hw h0 h1 (by omega) (fun t' _ => h _ t' ⟨rfl⟩ (told_len h0 h1)) hs
end
def rowTxt (N f : Int) (W : Str) : Str := if f = 0 then Str.ofString (toString N) ++ Txt.mul (Str.ofString " ") (N.fmod 3) else if f = 1 then [Str.ofString "", Str.ofString "   ", Str.ofString "\r"].getD (N.fmod 3).toNat Str.empty else if f = 2 then [W, Str.ofString "65530 " ++ W, Str.ofString "123456 " ++ W, Str.ofString " " ++ W].getD (N.fmod 4).toNat Str.empty else Txt.mul (Str.ofString "  ") (f.fdiv 7) ++ Str.ofString (toString N) ++ Txt.mul (Str.ofString " ") (1 - (f.fdiv 5).fmod 2) ++ W ++ Txt.mul (Str.ofString "\r") ((f.fdiv 6).fmod 2)
def rowTold (f : Int) (W : Str) : Str := if f = 0 ∨ f = 1 then Str.ofString "" else W
def rowNone (f : Int) : Bool := decide (f = 2)
def RowLine (N f : Int) (va : Value) : Prop := if f = 1 ∨ f = 2 then va = .none else ∃ t, va = .int N t
theorem rx0 {N f : Int} {W : Str} {t : Tok} (h : f = 0) : Str.ofString (toString N) ++ Txt.mul (Str.ofString " ") (N.fmod 3) = rowTxt N f W ∧ Str.ofString "" = rowTold f W ∧ false = rowNone f ∧ RowLine N f (.int N t) := by
  subst h; exact ⟨rfl, rfl, rfl, t, rfl⟩
theorem rx1 {N f : Int} {W : Str} (h : f = 1) : [Str.ofString "", Str.ofString "   ", Str.ofString "\r"].getD (N.fmod 3).toNat Str.empty = rowTxt N f W ∧ Str.ofString "" = rowTold f W ∧ false = rowNone f ∧ RowLine N f .none := by
  subst h; exact ⟨rfl, rfl, rfl, rfl⟩
theorem rx2 {N f : Int} {W : Str} (h : f = 2) : [W, Str.ofString "65530 " ++ W, Str.ofString "123456 " ++ W, Str.ofString " " ++ W].getD (N.fmod 4).toNat Str.empty = rowTxt N f W ∧ W = rowTold f W ∧ true = rowNone f ∧ RowLine N f .none := by
  subst h; exact ⟨rfl, rfl, rfl, rfl⟩
theorem rx3 {N f : Int} {W : Str} {t : Tok} (h0 : f ≠ 0) (h1 : f ≠ 1) (h2 : f ≠ 2) : Txt.mul (Str.ofString "  ") (f.fdiv 7) ++ Str.ofString (toString N) ++ Txt.mul (Str.ofString " ") (1 - (f.fdiv 5).fmod 2) ++ W ++ Txt.mul (Str.ofString "\r") ((f.fdiv 6).fmod 2) = rowTxt N f W ∧ W = rowTold f W ∧ false = rowNone f ∧ RowLine N f (.int N t) := by
  unfold rowTxt rowTold rowNone RowLine
  rw [if_neg h0, if_neg h1, if_neg h2, if_neg (fun q => q.elim h0 h1)]
  exact ⟨rfl, rfl, by rw [decide_eq_false h2], by rw [if_neg (fun q => q.elim h1 h2)]; exact ⟨t, rfl⟩⟩
abbrev rowObj (X : Str) (va : Value) (Y : Str) (b : Bool) (t1 t2 : Tok) : Obj := { cls := .type "tuple", data := .seq #[.str X t1, va, .str Y t2, .bool b] 0 }
abbrev jarObj (cl : Addr) (k : Int) (t : Tok) (c : Nat) : Obj := listOf #[.ref cl, .int k t] c
def RowPost (j cl : Addr) (k : Int) (oc : Obj) (news : Led) (v : Value) (nw : Led) : Prop :=
  ∃ n f c N W D X va Y b t1 t2 t3 c3, (n < 5 ∧ 0 ≤ n) ∧ (f < 8 ∧ 0 ≤ f) ∧ (c < 6 ∧ 0 ≤ c) ∧ NumIs n N ∧ ToldIs c W ∧ v = .ref D ∧
    nw = (D, rowObj X va Y b t1 t2) :: (j, jarObj cl (k + 1 + 1 + 1) t3 c3) :: (cl, oc) :: news ∧ (X = rowTxt N f W ∧ Y = rowTold f W ∧ b = rowNone f ∧ RowLine N f va) ∧ j < D ∧ cl < D ∧ (∀ p ∈ news, p.1 < D)
theorem News.pick3 {h₀ h : Heap} {L : Addr} {a b c : Addr × Obj} {l l' : Led} (N : News h₀ L h l') (ha : a ∈ l') (hb : b ∈ l') (hc : c ∈ l') (hl : ∀ p ∈ l, p ∈ l') : News h₀ L h (a :: b :: c :: l) := fun p hp => by
  simp only [List.mem_cons] at hp
  rcases hp with e | e | e | e
  · rw [e]; exact N _ ha
  · rw [e]; exact N _ hb
  · rw [e]; exact N _ hc
  · exact N _ (hl _ e)
theorem row_end {h₀ h' : Heap} {L j cl D : Addr} {m : Str → Option Value} {s : Shared} {Q : Value → Shared → Prop} {tk' : Nat} {k : Int} {oc : Obj} {l' : Led} {n f c N : Int} {W X Y : Str} {va : Value} {b : Bool} {t1 t2 t3 : Tok} {c3 : Nat}
    (hret : ∀ v news' h' tk', Fr h₀ L h' m → News h₀ L h' news' → RowPost j cl k oc news v news' → Q v { s with heap := h', toks := tk' })
    (F : Fr h₀ L h' m) (N' : News h₀ L h' l') (ha : (D, rowObj X va Y b t1 t2) ∈ l') (hb : (j, jarObj cl (k + 1 + 1 + 1) t3 c3) ∈ l') (hc : (cl, oc) ∈ l') (hl : ∀ p ∈ news, p ∈ l')
    (nb : NumIs n N) (tb : ToldIs c W) (n5 : n < 5) (n0 : 0 ≤ n) (f8 : f < 8) (f0 : 0 ≤ f) (c6 : c < 6) (c0 : 0 ≤ c) (hx : X = rowTxt N f W ∧ Y = rowTold f W ∧ b = rowNone f ∧ RowLine N f va) (l1 : @LT.lt Nat _ j D) (l2 : @LT.lt Nat _ cl D) (l3 : ∀ p ∈ news, p.1 < D) :
    Q (.ref D) { s with heap := h', toks := tk' } :=
  hret _ _ _ _ F (News.pick3 N' ha hb hc hl) ⟨n, f, c, N, W, D, X, va, Y, b, t1, t2, t3, c3, ⟨n5, n0⟩, ⟨f8, f0⟩, ⟨c6, c0⟩, nb, tb, rfl, rfl, hx, l1, l2, l3⟩
set_option maxHeartbeats 4000000 in
theorem c_row (j cl : Addr) (c c2 : Nat) (vs : List Value) (ns : List Int) (k : Int) (t : Tok) (hi : IntsAre vs ns) (hn : ns.length ≤ 15) (hk0 : 0 ≤ k) (hk1 : k ≤ 990) (hne : ∀ p ∈ (cl, listOf vs.toArray c2) :: news, p.1 ≠ j) :
    Ctr w mean mg mb 309 3 ((j, listOf #[.ref cl, .int k t] c) :: (cl, listOf vs.toArray c2) :: news) [.ref j] (RowPost j cl k (listOf vs.toArray c2) news) NoExc := by
  intro dp un gd cn cs a ccd clo outer A₀ base h₀ L m s Q E B F X N T hk hd' hu hret hexc
  refine wpAny_call ?_
  k_dflt cell_enter
  refine (let ak := _; (?_ : wpAny _ ak _ _ _ _))
  w_top off
  k_with_none
  k_with "execs cons" => ((try k_fold); refine wpAny_execs_cons ?_; refine (let sk := _; (?_ : wpAny _ _ _ _ _ sk)))
  k_with "eval Call" => (k_here; (with_reducible show wpAny _ _ (eval (Expr.Call (Expr.Name _ _) _ [] _) _) _ _ _); k_dflt (refine Call_ ?_))
  k_with "exec Raise some none" => (k_here; (refine' raise_B ?_ ?R220.hh); (case hh => k_dflt rfl))
  k_with "call ref" => (k_here; (try refine (?_ : wpAny _ (PySem.Around.deeper _ _) _ _ _ _)); (with_reducible show wpAny _ _ (PySem.call (Value.ref 34) _ _) _ _ _); refine' c_basic ?R221.b1 ?R221.b2 ?R221.b3 ?R221.b4 ?R221.b5 ?R221.b6 ?R221.b7 ?R221.b8 ?R221.b9 ?_; (case b1 => k_asm); (case b2 => k_asm); (case b3 => k_asm); (case b4 => k_asm); (case b5 => k_asm); (case b6 => rfl); (case b7 => rfl); (case b8 => first | rfl | assumption); (case b9 => ktr_room); intro e' dx' oD' ta' h' tk' F' N' d1' d2' d3')
  k_with "RaiseB" => (refine' ⟨_, _, _, rfl, ?R222.r1, ?R222.r2, ?_⟩; (case r1 => exact (News.get (by assumption) (.head _))); (case r2 => exact (Frag.In.keeps (by assumption) (Fr.keep (by assumption))) _ _ (by k_dflt k_is)))
  k_with "leaving ref" => (k_here; first
  | (refine' leave_newB ?R223.k1 ?R223.k2 ?R223.k3 ?R223.k4 ?R223.k5 ?R223.k6 ?_; (case k1 => assumption); (case k2 => assumption); (case k3 => assumption); (case k4 => assumption); (case k5 => assumption); (case k6 => assumption); k_whole; intro h' R' U'; (try dsimp only at R' U' ⊢))
  | (refine' leave_onB ?R223.k1 ?R223.k2 ?R223.k3 ?R223.k4 ?_; (case k3 => assumption); (case k1 => assumption); (case k4 => assumption); (case k2 => assumption); k_whole; intro h' R' U'; (try dsimp only at R' U' ⊢)))
  k_with "call ref" => (k_here; (try refine (?_ : wpAny _ (PySem.Around.deeper _ _) _ _ _ _)); (with_reducible show wpAny _ _ (PySem.call (Value.ref 302) _ _) _ _ _); (try k_fold); k_dflt (refine' Ctr.use0 (c_taken _ _ _ _ _ _ _ _ _ _ ?R224.p1 ?R224.p2 ?R224.p3 ?R224.p4 ?R224.p5 ?R224.p6) ?R224.k1 ?R224.k2 ?R224.k3 ?R224.k4 ?R224.k5 ?R224.k6 ?R224.k7 ?R224.k8 ?_; (case k1 => k_asm); (case k2 => k_asm); (case k3 => k_asm); (case k5 => k_asm); (case k4 => first | k_asm | exact News.rot (by with_reducible assumption) | exact News.rot2 (by with_reducible assumption)); (case k6 => first | rfl | assumption); (case k7 => ktr_room); (case k8 => ktr_units); (case p1 => decide); (case p2 => with_reducible assumption); (case p3 => with_reducible assumption); (case p4 => omega); (case p5 => omega); (case p6 => first | with_reducible assumption | exact jar_ne (by with_reducible assumption) (by with_reducible assumption) | exact jar_ne2 (by with_reducible assumption) (by with_reducible assumption) (by with_reducible assumption) (by with_reducible assumption)); intro v' nw' h' tk' F' N' q'; obtain ⟨n', t', t3', c', q1, ge', lt', q2⟩ := q'; subst q1 q2; (try (have ff' := form_facts ge' lt')); (try dsimp only)))
  k_with "last subscriptTail" => (k_here; (with_reducible show wpAny _ _ (subscriptTail _ _ (Value.ref _) (Value.int (Int.fmod _ _) _)) _ _ _); k_dflt (refine' KTb.item_list ?R225.l ?R225.w ?R225.a ?R225.b ?R225.f ?_ ?R225.s; (case l => exact News.isList (by k_asm) (by k_mem)); (case w => repeat constructor); (case a => omega); (case b => (simp only [List.length_cons, List.length_nil]; omega)); (case f => omega); (case s => with_unfolding_all rfl)); intro t' gl')
  k_with "last subscriptTail" => (k_here; (with_reducible show wpAny _ _ (subscriptTail _ _ (Value.ref _) (Value.int _ _)) _ _ _); k_dflt (refine' told_item ?R226.l ?R226.w ?R226.a ?R226.b ?_ ?R226.s; (case l => exact News.isList (by k_asm) (by k_mem)); (case w => repeat constructor); (case a => with_reducible assumption); (case b => with_reducible assumption); (case s => with_unfolding_all rfl)); intro W' t' tb' wl')
  k_with "subscriptTail" => (k_here; (with_reducible show wpAny _ _ (subscriptTail _ _ (Value.ref _) (Value.int _ _)) _ _ _); k_dflt (refine' num_item ?R227.l ?R227.a ?R227.b ?_ ?R227.s; (case l => exact News.isList (by k_asm) (by k_mem)); (case a => with_reducible assumption); (case b => with_reducible assumption); (case s => with_unfolding_all rfl)); intro N' t' nb' lo' hi'; have f3' := fmod3 N'; have f4' := fmod4 N'; have zl' := len_str_of_int N')
  k_steps
  · exact row_end hret (by k_asm) (by with_reducible assumption) (by k_mem) (by k_mem) (by k_mem) (fun p hp => by repeat (first | exact hp | refine List.Mem.tail _ ?_)) (by with_reducible assumption) (by with_reducible assumption) (by with_reducible assumption) (by with_reducible assumption) (by with_reducible assumption) (by with_reducible assumption) (by with_reducible assumption) (by with_reducible assumption) (rx0 (by with_reducible assumption)) (by omega) (by omega) (by first | with_reducible assumption | exact allLt_all (And.right (show (_ : Prop) ∧ AllLt _ news by with_reducible assumption)) | exact allLt_all (And.right (And.right (show (_ : Prop) ∧ (_ : Prop) ∧ AllLt _ news by with_reducible assumption))) | exact allLt_all (And.right (And.right (And.right (show (_ : Prop) ∧ (_ : Prop) ∧ (_ : Prop) ∧ AllLt _ news by with_reducible assumption)))) | exact allLt_all (And.right (And.right (And.right (And.right (show (_ : Prop) ∧ (_ : Prop) ∧ (_ : Prop) ∧ (_ : Prop) ∧ AllLt _ news by with_reducible assumption))))) | exact allLt_all (And.right (And.right (And.right (And.right (And.right (show (_ : Prop) ∧ (_ : Prop) ∧ (_ : Prop) ∧ (_ : Prop) ∧ (_ : Prop) ∧ AllLt _ news by with_reducible assumption)))))) | exact allLt_all (And.right (And.right (And.right (And.right (And.right (And.right (show (_ : Prop) ∧ (_ : Prop) ∧ (_ : Prop) ∧ (_ : Prop) ∧ (_ : Prop) ∧ (_ : Prop) ∧ AllLt _ news by with_reducible assumption))))))) | exact allLt_all (And.right (And.right (And.right (And.right (And.right (And.right (And.right (show (_ : Prop) ∧ (_ : Prop) ∧ (_ : Prop) ∧ (_ : Prop) ∧ (_ : Prop) ∧ (_ : Prop) ∧ (_ : Prop) ∧ AllLt _ news by with_reducible assumption)))))))))
  · exact row_end hret (by k_asm) (by with_reducible assumption) (by k_mem) (by k_mem) (by k_mem) (fun p hp => by repeat (first | exact hp | refine List.Mem.tail _ ?_)) (by with_reducible assumption) (by with_reducible assumption) (by with_reducible assumption) (by with_reducible assumption) (by with_reducible assumption) (by with_reducible assumption) (by with_reducible assumption) (by with_reducible assumption) (rx1 (by with_reducible assumption)) (by omega) (by omega) (by first | with_reducible assumption | exact allLt_all (And.right (show (_ : Prop) ∧ AllLt _ news by with_reducible assumption)) | exact allLt_all (And.right (And.right (show (_ : Prop) ∧ (_ : Prop) ∧ AllLt _ news by with_reducible assumption))) | exact allLt_all (And.right (And.right (And.right (show (_ : Prop) ∧ (_ : Prop) ∧ (_ : Prop) ∧ AllLt _ news by with_reducible assumption)))) | exact allLt_all (And.right (And.right (And.right (And.right (show (_ : Prop) ∧ (_ : Prop) ∧ (_ : Prop) ∧ (_ : Prop) ∧ AllLt _ news by with_reducible assumption))))) | exact allLt_all (And.right (And.right (And.right (And.right (And.right (show (_ : Prop) ∧ (_ : Prop) ∧ (_ : Prop) ∧ (_ : Prop) ∧ (_ : Prop) ∧ AllLt _ news by with_reducible assumption)))))) | exact allLt_all (And.right (And.right (And.right (And.right (And.right (And.right (show (_ : Prop) ∧ (_ : Prop) ∧ (_ : Prop) ∧ (_ : Prop) ∧ (_ : Prop) ∧ (_ : Prop) ∧ AllLt _ news by with_reducible assumption))))))) | exact allLt_all (And.right (And.right (And.right (And.right (And.right (And.right (And.right (show (_ : Prop) ∧ (_ : Prop) ∧ (_ : Prop) ∧ (_ : Prop) ∧ (_ : Prop) ∧ (_ : Prop) ∧ (_ : Prop) ∧ AllLt _ news by with_reducible assumption)))))))))
  · exact row_end hret (by k_asm) (by with_reducible assumption) (by k_mem) (by k_mem) (by k_mem) (fun p hp => by repeat (first | exact hp | refine List.Mem.tail _ ?_)) (by with_reducible assumption) (by with_reducible assumption) (by with_reducible assumption) (by with_reducible assumption) (by with_reducible assumption) (by with_reducible assumption) (by with_reducible assumption) (by with_reducible assumption) (rx2 (by with_reducible assumption)) (by omega) (by omega) (by first | with_reducible assumption | exact allLt_all (And.right (show (_ : Prop) ∧ AllLt _ news by with_reducible assumption)) | exact allLt_all (And.right (And.right (show (_ : Prop) ∧ (_ : Prop) ∧ AllLt _ news by with_reducible assumption))) | exact allLt_all (And.right (And.right (And.right (show (_ : Prop) ∧ (_ : Prop) ∧ (_ : Prop) ∧ AllLt _ news by with_reducible assumption)))) | exact allLt_all (And.right (And.right (And.right (And.right (show (_ : Prop) ∧ (_ : Prop) ∧ (_ : Prop) ∧ (_ : Prop) ∧ AllLt _ news by with_reducible assumption))))) | exact allLt_all (And.right (And.right (And.right (And.right (And.right (show (_ : Prop) ∧ (_ : Prop) ∧ (_ : Prop) ∧ (_ : Prop) ∧ (_ : Prop) ∧ AllLt _ news by with_reducible assumption)))))) | exact allLt_all (And.right (And.right (And.right (And.right (And.right (And.right (show (_ : Prop) ∧ (_ : Prop) ∧ (_ : Prop) ∧ (_ : Prop) ∧ (_ : Prop) ∧ (_ : Prop) ∧ AllLt _ news by with_reducible assumption))))))) | exact allLt_all (And.right (And.right (And.right (And.right (And.right (And.right (And.right (show (_ : Prop) ∧ (_ : Prop) ∧ (_ : Prop) ∧ (_ : Prop) ∧ (_ : Prop) ∧ (_ : Prop) ∧ (_ : Prop) ∧ AllLt _ news by with_reducible assumption)))))))))
  · exact row_end hret (by k_asm) (by with_reducible assumption) (by k_mem) (by k_mem) (by k_mem) (fun p hp => by repeat (first | exact hp | refine List.Mem.tail _ ?_)) (by with_reducible assumption) (by with_reducible assumption) (by with_reducible assumption) (by with_reducible assumption) (by with_reducible assumption) (by with_reducible assumption) (by with_reducible assumption) (by with_reducible assumption) (rx3 (by with_reducible assumption) (by with_reducible assumption) (by with_reducible assumption)) (by omega) (by omega) (by first | with_reducible assumption | exact allLt_all (And.right (show (_ : Prop) ∧ AllLt _ news by with_reducible assumption)) | exact allLt_all (And.right (And.right (show (_ : Prop) ∧ (_ : Prop) ∧ AllLt _ news by with_reducible assumption))) | exact allLt_all (And.right (And.right (And.right (show (_ : Prop) ∧ (_ : Prop) ∧ (_ : Prop) ∧ AllLt _ news by with_reducible assumption)))) | exact allLt_all (And.right (And.right (And.right (And.right (show (_ : Prop) ∧ (_ : Prop) ∧ (_ : Prop) ∧ (_ : Prop) ∧ AllLt _ news by with_reducible assumption))))) | exact allLt_all (And.right (And.right (And.right (And.right (And.right (show (_ : Prop) ∧ (_ : Prop) ∧ (_ : Prop) ∧ (_ : Prop) ∧ (_ : Prop) ∧ AllLt _ news by with_reducible assumption)))))) | exact allLt_all (And.right (And.right (And.right (And.right (And.right (And.right (show (_ : Prop) ∧ (_ : Prop) ∧ (_ : Prop) ∧ (_ : Prop) ∧ (_ : Prop) ∧ (_ : Prop) ∧ AllLt _ news by with_reducible assumption))))))) | exact allLt_all (And.right (And.right (And.right (And.right (And.right (And.right (And.right (show (_ : Prop) ∧ (_ : Prop) ∧ (_ : Prop) ∧ (_ : Prop) ∧ (_ : Prop) ∧ (_ : Prop) ∧ (_ : Prop) ∧ AllLt _ news by with_reducible assumption)))))))))

end
end Mine

end
section
open PySem PySem.W PyProof.Rows PySem.Calls
set_option Elab.async false
set_option linter.all false
set_option maxRecDepth 100000
set_option rowWalk.seconds 0
namespace Mine
section
variable {w : World} {mean : ExcName → Option Value} {mg mb : Str → Option Value} {news : Led}


theorem strs_at : ∀ {vs : List Value} {xs : List Str}, StrsAre vs xs → ∀ (i : Nat) (v : Value), vs[i]? = some v → ∃ z t, xs[i]? = some z ∧ v = .str z t
  | _, _, .cons y t _, 0, v, e => by simp at e; exact ⟨y, t, rfl, e.symm⟩
  | _, _, .cons _ _ h, i + 1, v, e => by simpa using strs_at h i v (by simpa using e)
theorem strs_len {vs : List Value} {xs : List Str} (h : StrsAre vs xs) : vs.length = xs.length := by
  induction h with
  | nil => rfl
  | cons _ _ _ ih => simp [ih]
section
variable {prog : Program} {w : World} {A : Around} {E : Value → Shared → Prop} {s : Shared} {env : Env} {h₀ : Heap} {L : Addr} {m : Str → Option Value} {news : Led} {elt : Expr} {x : Str} {scope : Scope} {cl : List (Str × Addr)}
theorem comp_strsS {ax : Addr} {vs : List Value} {xs : List Str} {c : Nat} {Q : Value → Shared → Prop} (g : Str → Str) (hh : A.handled = none) (F : Fr h₀ L s.heap m) (N : News h₀ L s.heap news) (hm : (ax, listOf vs.toArray c) ∈ news) (hi : StrsAre vs xs) (hsz : xs.length ≤ 1000) (hz : ∀ z ∈ xs, z.length ≤ 1000)
    (turn : ∀ z t I oI C oC D m₂ ys h tk (E' : Value → Shared → Prop), z ∈ xs → z.length ≤ 1000 → LCg.NsObj oC m₂ → m₂ x = some (.str z t) → Fr h₀ L h m → News h₀ L h ((I, oI) :: (C, oC) :: (D, LCg.lst ys) :: news) → LCg.Off3 I C D news → ((@Ne Nat I C) ∧ (@Ne Nat I D) ∧ (@Ne Nat C D)) →
      wpAny (model prog w) A (eval elt (compEnvC scope cl C env)) (StrEnd h₀ L m ((I, oI) :: (C, oC) :: (D, LCg.lst ys) :: news) { s with heap := h, toks := tk } (g z)) E' { s with heap := h, toks := tk })
    (done : ∀ D vs' h tk, StrsAre vs' (xs.map g) → Fr h₀ L h m → News h₀ L h ((D, LCg.lst vs') :: news) → LCg.Off1 D news → Q (.ref D) { s with heap := h, toks := tk }) :
    LCg.CompSrc prog w A h₀ L m env elt x scope cl (fun s₂ => LCg.FinE h₀ L m s₂ Q) (.ref ax) s := by
  refine LCg.CompSrc.ledger hh F N hm (by rw [List.size_toArray, strs_len hi, sizeLine_eq]; omega) fun hp => ?_
  have key : ∀ (j i : Nat) (ys : List Value), i + j = xs.length → StrsAre ys ((xs.take i).map g) → LCg.CompRest prog w A h₀ L m env elt x scope cl { s with heap := hp } (LCg.SrcAt h₀ ax vs.toArray) (fun i v => vs.toArray[i]? = some v) (LCg.FinE h₀ L m { s with heap := hp } Q) j i ys news := by
    intro j
    induction j with
    | zero =>
      intro i ys hi' hy
      have e : i = xs.length := by omega
      subst e
      rw [List.take_length] at hy
      refine LCg.CompRest.zero ?_
      intro D h tk F' N' off
      exact done D ys h tk hy F' N' off
    | succ j ih =>
      intro i ys hi' hy
      refine LCg.CompRest.succ ?_
      intro v I oI C oC D m₂ h tk E' hv hC hx F N off ne
      obtain ⟨z, t, e, hk⟩ := strs_at hi i v (by simpa using hv)
      subst hk
      refine wpAny_mono (turn z t I oI C oC D m₂ ys h tk E' (List.mem_of_getElem? e) (hz _ (List.mem_of_getElem? e)) hC hx F N off ne) (fun y s₂ hq => ?_) fun _ _ e => e
      obtain ⟨h', tk', t', e', hy', F', N'⟩ := hq
      subst e' hy'
      refine ⟨h', tk', news, rfl, F', N', off, .inr ⟨_, hm, rfl, _, rfl⟩, ?_⟩
      refine ih (i + 1) _ (by omega) ?_
      rw [List.take_add_one, e]
      simpa using kct_snoc hy
  rw [show vs.toArray.size = xs.length by rw [List.size_toArray, strs_len hi]]
  exact key xs.length 0 [] (by omega) (by simp only [List.take_zero, List.map_nil]; exact .nil)
end
def rowsOf (b : Bk) : List Str := (sortI (keysB b)).map fun k => rowOf k (lookG k b)
def Same (b1 b : Bk) : Prop := b1.length = b.length ∧ ∀ p ∈ b1, lookB p.1 b = some p.2
structure KeptFacts (b : Bk) : Prop where
  few : b.length ≤ 10
  ok : BkOK b
  rows_len : (rowsOf b).length ≤ 60
  row_len : ∀ x ∈ rowsOf b, x.length ≤ 1000
  weight : (((rowsOf b).map fun z => z ++ Str.ofString "\n").map (·.length)).sum + ((rowsOf b).map fun z => z ++ Str.ofString "\n").length ≤ 1048576
  joined : Txt.join (Str.ofString "") ((rowsOf b).map fun z => z ++ Str.ofString "\n") = bookText b
  load : ∃ b1, foldR loadStep [] (Txt.split (bookText b) (Str.ofString "\n")) = .ok b1 ∧ Same b1 b
  read : ∃ b1, foldR readStep [] (Txt.split (bookText b) (Str.ofString "\n")) = .ok b1 ∧ Same b1 b
  rows : ∃ b1, rowsF [] (rowsOf b) = .ok b1 ∧ Same b1 b
  len : (bookText b).length ≤ 600
  readOK : ∀ y ∈ Txt.split (bookText b) (Str.ofString "\n"), ReadOK y
theorem lo_of {D : Addr} (h : @LT.lt Nat _ 1 D) : (D == sysModules) = false := beq_eq_false_iff_ne.mpr (Nat.ne_of_gt h)
theorem str_ne_self {x y : Str} (h : x = y) : ¬ ((x != y) = true) := by simp [h]


set_option maxHeartbeats 8000000 in
theorem c_kept (cw : CanW w mean mg mb) (d : Addr) (o : Obj) (b : Bk) (hm : (d, o) ∈ news) (lo : (d == sysModules) = false) (hB : IsBook w o b) (kf : KeptFacts b) :
    Ctr w mean mg mb 321 18 news [.ref d] (fun v nw => v = .bool true ∧ news = nw) NoExc := by
  intro dp un gd cn cs a ccd cl outer A₀ base h₀ L m s Q E B F X N T hk hd' hu hret hexc
  have kfew := kf.few
  have kok := kf.ok
  refine wpAny_call ?_
  k_dflt (refine' code_defC ?k1 ?k2 ?k3 ?k4 ?k5 ?kA ?kF ?kK ?k6 ?k7 ?k8 ?k9 ?kB ?kD ?_ ?c2 ?c3 ?c4; (case kA => exact rfl); (case kF => exact rfl); (case kK => assumption); (case k1 => k_asm); (case k2 => k_asm); (case k3 => k_asm); (case k4 => k_asm); (case k5 => k_asm); (case k6 => k_is); (case k7 => k_is); (case k8 => ktr_room); (case k9 => exact BindsTo.of_eq rfl); (case kB => exact rfl); (case kD => decide +kernel); (case c2 => exact rfl); (case c3 => exact rfl); (case c4 => exact rfl); k_whole; intro g' L' h' tk' cells' FG' F' N' Y' B' X' T' l1; (try k_lt l1); k_cells Y'; (try simp only [List.cons_append, List.nil_append] at N'); (try dsimp only); (try k_lift B'); (try k_fold))
  w_top off
  k_with_none
  k_with "execs cons" => ((try k_fold); refine wpAny_execs_cons ?_; refine (let sk := _; (?_ : wpAny _ _ _ _ _ sk)))
  k_with "eval Call" => (k_here; (with_reducible show wpAny _ _ (eval (Expr.Call (Expr.Name _ _) _ [] _) _) _ _ _); k_dflt (refine Call_ ?_))
  k_with "exec Raise some none" => (k_here; (refine' raise_B ?_ ?R229.hh); (case hh => k_dflt rfl))
  k_with "call ref" => (k_here; (try refine (?_ : wpAny _ (PySem.Around.deeper _ _) _ _ _ _)); (with_reducible show wpAny _ _ (PySem.call (Value.ref 34) _ _) _ _ _); refine' c_basic ?R230.b1 ?R230.b2 ?R230.b3 ?R230.b4 ?R230.b5 ?R230.b6 ?R230.b7 ?R230.b8 ?R230.b9 ?_; (case b1 => k_asm); (case b2 => k_asm); (case b3 => k_asm); (case b4 => k_asm); (case b5 => k_asm); (case b6 => rfl); (case b7 => rfl); (case b8 => first | rfl | assumption); (case b9 => ktr_room); intro e' dx' oD' ta' h' tk' F' N' d1' d2' d3')
  k_with "RaiseB" => (refine' ⟨_, _, _, rfl, ?R231.r1, ?R231.r2, ?_⟩; (case r1 => exact (News.get (by assumption) (.head _))); (case r2 => exact (Frag.In.keeps (by assumption) (Fr.keep (by assumption))) _ _ (by k_dflt k_is)))
  k_with "leaving ref" => (k_here; first
  | (refine' leave_newB ?R232.k1 ?R232.k2 ?R232.k3 ?R232.k4 ?R232.k5 ?R232.k6 ?_; (case k1 => assumption); (case k2 => assumption); (case k3 => assumption); (case k4 => assumption); (case k5 => assumption); (case k6 => assumption); k_whole; intro h' R' U'; (try dsimp only at R' U' ⊢))
  | (refine' leave_onB ?R232.k1 ?R232.k2 ?R232.k3 ?R232.k4 ?_; (case k3 => assumption); (case k1 => assumption); (case k4 => assumption); (case k2 => assumption); k_whole; intro h' R' U'; (try dsimp only at R' U' ⊢)))
  k_with "StrEnd" => (k_dflt (exact ⟨_, _, _, rfl, rfl, by k_asm, by k_asm⟩))
  k_with "call builtin:sorted" => (k_here; (with_reducible show wpAny _ _ (PySem.call (Value.builtin "sorted") [Value.ref _]) _ _ _); k_dflt (refine' bk_sorted ?R234.B ?R234.hh ?R234.F ?R234.N ?R234.M ?R234.l ?R234.z ?_; (case F => k_asm); (case N => k_asm); (case hh => exact rfl); (case B => with_reducible assumption); (case M => first | k_mem | (repeat (first | with_reducible assumption | apply List.mem_cons_of_mem))); (case l => with_reducible assumption); (case z => omega)); intro D' vs' c' h' tk' F' N' l1 i'; (try k_lt l1))
  k_with "eval ListComp" => (k_here; k_dflt (refine LCg.ListComp_U (F₀ := by k_asm) (by with_unfolding_all rfl) (by decide) (by rfl) (by decide) (by rfl) ?_))
  k_with "subscriptTail Name Name ref int" => (k_here; k_dflt (refine' bk_get ?R236.B ?R236.D ?R236.l ?R236.hk ?_ ?R236.a ?R236.b; (case a => with_unfolding_all rfl); (case b => with_unfolding_all exact fun _ => rfl); (case hk => with_reducible assumption); (case B => with_reducible assumption); (case D => exact News.get (by k_asm) (by repeat (first | with_reducible assumption | apply List.mem_cons_of_mem))); (case l => with_reducible assumption)); intro t')
  k_with "CompSrc" => (k_here; (rename KeptFacts _ => kf); k_dflt (refine' comp_strsS (fun z => z ++ Str.ofString "\n") ?R237.hh ?R237.F ?R237.N ?R237.M ?R237.I ?R237.z ?R237.hz ?_ ?_; (case hh => exact rfl); (case F => k_asm); (case N => k_asm); (case M => k_mem); (case I => with_reducible assumption); (case z => exact Nat.le_trans kf.rows_len (by decide)); (case hz => exact kf.row_len)); (all_goals first | (intro z' t' I' oI' C' oC' D' m' ys' h' tk' E' hk' ln' hC' hx' F' N' off' ne'; (try (simp only [LCg.Off3, and_true] at off'))) | (intro D' vs' h' tk' S' F' N' off'; (try (simp only [LCg.Off1, and_true] at off')))))
  k_with "CompSrc" => (k_here; k_dflt (refine' comp_book lineOf ?R238.B ?R238.hh ?R238.F ?R238.N ?R238.M ?R238.I ?R238.z ?R238.ok ?_ ?_; (case ok => with_reducible assumption); (case hh => exact rfl); (case I => with_reducible assumption); (case B => with_reducible assumption); (case F => k_asm); (case N => k_asm); (case M => k_mem); (case z => omega)); (all_goals first | (intro k' t' I' oI' C' oC' D' m' ys' h' tk' E' hk' hb' ko' ge' le' ln' hC' hx' F' N' off' ne'; (try (simp only [LCg.Off3, and_true] at off'))) | (intro D' vs' h' tk' S' F' N' off'; (try (simp only [LCg.Off1, and_true] at off')))))
  k_with "call builtin:str.join" => (k_here; (rename KeptFacts _ => kf); k_dflt (refine' join_listW ?R239.hl ?R239.hi ?R239.hs ?R239.hw ?_; (case hl => exact News.isList (by k_asm) (by first | k_mem | exact .head _)); (case hi => assumption); (case hs => decide); (case hw => first | exact lines_weight kf.few kf.ok | exact kf.weight)); intro t' k')
  k_with "call ref" => (k_here; (try refine (?_ : wpAny _ (PySem.Around.deeper _ _) _ _ _ _)); (with_reducible show wpAny _ _ (PySem.call (Value.ref 49) _ _) _ _ _); (try k_fold); (rename KeptFacts _ => kf); k_dflt (refine' Ctr.use0 (c_saved_text _ _ _ kf.few ?R240.p1 ?R240.p2 ?R240.p3 kf.ok) ?R240.k1 ?R240.k2 ?R240.k3 ?R240.k4 ?R240.k5 ?R240.k6 ?R240.k7 ?R240.k8 ?_; tb_start; (case p1 => (repeat (first | with_reducible assumption | apply List.mem_cons_of_mem))); (case p2 => with_reducible assumption); (case p3 => with_reducible assumption); (intro v' nw' h' tk' F' N' q'; obtain ⟨⟨tq, q1⟩, q2⟩ := q'; subst q1 q2; (try dsimp only))))
  k_with "call ref" => (k_here; (try refine (?_ : wpAny _ (PySem.Around.deeper _ _) _ _ _ _)); (with_reducible show wpAny _ _ (PySem.call (Value.ref 288) _ _) _ _ _); (try k_fold); (rename KeptFacts _ => kf); k_dflt (refine' Ctr.use0 (c_listed _ _ _ kf.few ?R241.p1 ?R241.p2 ?R241.p3 kf.ok) ?R241.k1 ?R241.k2 ?R241.k3 ?R241.k4 ?R241.k5 ?R241.k6 ?R241.k7 ?R241.k8 ?_; tb_start; (case p1 => (repeat (first | with_reducible assumption | apply List.mem_cons_of_mem))); (case p2 => with_reducible assumption); (case p3 => with_reducible assumption); (intro v' nw' h' tk' F' N' q'; obtain ⟨⟨tq, q1⟩, q2⟩ := q'; subst q1 q2; (try dsimp only))))
  k_with "call ref" => (k_here; (try refine (?_ : wpAny _ (PySem.Around.deeper _ _) _ _ _ _)); (with_reducible show wpAny _ _ (PySem.call (Value.ref 108) _ _) _ _ _); (try k_fold); (rename KeptFacts _ => kf); k_dflt (refine' Ctr.use0 (c_listed_rows _ _ _ _ _ kf.few ?R242.p1 ?R242.p2 ?R242.p3 kf.ok) ?R242.k1 ?R242.k2 ?R242.k3 ?R242.k4 ?R242.k5 ?R242.k6 ?R242.k7 ?R242.k8 ?_; tb_start; (case p1 => (repeat (first | with_reducible assumption | apply List.mem_cons_of_mem))); (case p2 => with_reducible assumption); (case p3 => with_reducible assumption); (intro v' nw' h' tk' F' N' q'; obtain ⟨D, vs, c, q1, S', q2, off'⟩ := q'; subst q1 q2; (try (simp only [LCg.Off1, and_true] at off')); (try dsimp only))))
  k_with "call ref" => (k_here; (try refine (?_ : wpAny _ (PySem.Around.deeper _ _) _ _ _ _)); (with_reducible show wpAny _ _ (PySem.call (Value.ref 115) _ _) _ _ _); (try k_fold); (rename KeptFacts _ => kf); k_dflt (refine' Ctr.use (c_program_of_rows _ _ _ _ ?R243.p1 ?R243.p2 ?R243.p3 ?R243.p4) ?R243.k1 ?R243.k2 ?R243.k3 ?R243.k4 ?R243.k5 ?R243.k6 ?R243.k7 ?R243.k8 ?_ ?_; tb_start; (case p4 => k_mem); (case p1 => with_reducible assumption); (case p2 => exact kf.rows_len); (case p3 => exact kf.row_len); (all_goals first | (obtain ⟨b9, e9, s9⟩ := kf.rows; intro v' nw' h' tk' F' N' q'; obtain ⟨D, o, b, e1, q1, bB, q2, lt'⟩ := q'; replace e1 := e1.symm.trans e9; cases e1; subst q1 q2; (try k_lt lt'); (try dsimp only)) | (obtain ⟨b9, e9, s9⟩ := kf.rows; intro e' c' g' h' tk' U' F' R' q'; exfalso; (rcases q' with ⟨q, _⟩ | ⟨q, _⟩ <;> (replace q := q.symm.trans e9; cases q))))))
  k_with "call ref" => (k_here; (try refine (?_ : wpAny _ (PySem.Around.deeper _ _) _ _ _ _)); (with_reducible show wpAny _ _ (PySem.call (Value.ref 56) _ _) _ _ _); (try k_fold); (rename KeptFacts _ => kf); k_dflt (refine' Ctr.use (c_loaded_program _ _ ?R244.p1) ?R244.k1 ?R244.k2 ?R244.k3 ?R244.k4 ?R244.k5 ?R244.k6 ?R244.k7 ?R244.k8 ?_ ?_; tb_start; (case p1 => exact kf.len); (all_goals first | (obtain ⟨b9, e9, s9⟩ := kf.load; intro v' nw' h' tk' F' N' q'; obtain ⟨D, o, b, e1, q1, bB, q2, lt'⟩ := q'; replace e1 := e1.symm.trans e9; cases e1; subst q1 q2; (try k_lt lt'); (try dsimp only)) | (obtain ⟨b9, e9, s9⟩ := kf.load; intro e' c' g' h' tk' U' F' R' q'; exfalso; (obtain ⟨q, _⟩ := q'; replace q := q.symm.trans e9; cases q)))))
  k_with "call ref" => (k_here; (try refine (?_ : wpAny _ (PySem.Around.deeper _ _) _ _ _ _)); (with_reducible show wpAny _ _ (PySem.call (Value.ref 295) _ _) _ _ _); (try k_fold); (rename KeptFacts _ => kf); k_dflt (refine' Ctr.use (c_read_listing ?R245.p0 _ _ ?R245.p1 ?R245.p2) ?R245.k1 ?R245.k2 ?R245.k3 ?R245.k4 ?R245.k5 ?R245.k6 ?R245.k7 ?R245.k8 ?_ ?_; tb_start; (case p0 => with_reducible assumption); (case p1 => exact kf.len); (case p2 => exact kf.readOK); (all_goals first | (obtain ⟨b9, e9, s9⟩ := kf.read; intro v' nw' h' tk' F' N' q'; obtain ⟨D, o, b, e1, q1, bB, q2, lt'⟩ := q'; replace e1 := e1.symm.trans e9; cases e1; subst q1 q2; (try k_lt lt'); (try dsimp only)) | (obtain ⟨b9, e9, s9⟩ := kf.read; intro e' c' g' h' tk' U' F' R' q'; exfalso; (obtain ⟨q, _⟩ := q'; replace q := q.symm.trans e9; cases q)))))
  k_with "ite" => (k_here; (rename KeptFacts _ => kf); k_dflt (refine' iteF ?R246.h ?_; (case h => exact str_ne_self (by first | rfl | exact kf.joined))))
  k_with "compareOp NotEq ref ref" => (k_here; k_dflt (refine' bk_ne ?R247.B ?R247.D ?R247.l ?R247.B2 ?R247.D2 ?R247.l2 ?R247.hl ?R247.hs ?R247.hu ?_; (case D => exact News.get (by k_asm) (by k_mem)); (case B => with_reducible assumption); (case l => exact lo_of (by omega)); (case D2 => exact News.get (by k_asm) (by repeat (first | with_reducible assumption | apply List.mem_cons_of_mem))); (case B2 => with_reducible assumption); (case l2 => with_reducible assumption); (case hl => exact And.left (show Same _ _ by with_reducible assumption)); (case hs => exact And.right (show Same _ _ by with_reducible assumption)); (case hu => ktr_units)))
  k_with "compareOp Eq ref ref" => (k_here; k_dflt (refine' bk_eq ?R248.B ?R248.D ?R248.l ?R248.B2 ?R248.D2 ?R248.l2 ?R248.hl ?R248.hs ?R248.hu ?_; (case D => exact News.get (by k_asm) (by k_mem)); (case B => with_reducible assumption); (case l => exact lo_of (by omega)); (case D2 => exact News.get (by k_asm) (by repeat (first | with_reducible assumption | apply List.mem_cons_of_mem))); (case B2 => with_reducible assumption); (case l2 => with_reducible assumption); (case hl => exact And.left (show Same _ _ by with_reducible assumption)); (case hs => exact And.right (show Same _ _ by with_reducible assumption)); (case hu => ktr_units)))
  k_steps
  exact hret _ news _ _ (by k_asm) (News.cut1 (News.cut1 (News.cut1 (News.cut1 (News.cut1 (News.cut1 (News.cut1 (News.cut1 (News.cut1 (by with_reducible assumption)))))))))) ⟨rfl, rfl⟩
end
end Mine

end
section
open PySem PySem.W PyProof.Rows PySem.Calls
set_option Elab.async false
set_option linter.all false
set_option maxRecDepth 100000
namespace Mine
section
variable {prog : Program} {w : World} {A : Around} {E : Value → Shared → Prop} {s : Shared} {env : Env} {h₀ : Heap} {x : Str} {body : List Stmt} {Q : Flow → Shared → Prop}
theorem range_iterG {r : Addr} {a₀ b₀ c₀ : Int} {t₀ u₀ v₀ : Tok} {n : Nat} {m₀ : Str → Option Value} {news : List (Addr × Obj)} (J : Nat → (Str → Option Value) → List (Addr × Obj) → Prop)
    (hh : A.handled = none) (hr : IsRange s.heap r a₀ b₀ c₀ t₀ u₀ v₀) (hsmall : Builtin.Range.small a₀ b₀ c₀ = true) (hn : Builtin.Range.rangeSize a₀ b₀ c₀ = (n : Int))
    (F : Fr h₀ env.locals s.heap m₀) (N : News h₀ env.locals s.heap news) (hj : J 0 m₀ news)
    (turn : ∀ (i : Nat) k t m₁ news₁ h tk own, i < n → OwnOff own (news₁.map (·.1)) → J i m₁ news₁ → Fr h₀ env.locals h (fun y => if y = x then some (.int k t) else m₁ y) → News h₀ env.locals h (news₁ ++ own) →
      wpAny (model prog w) A (execs body env) (InvPostG h₀ env.locals (J (i + 1)) own { s with heap := h, toks := tk } Q) E { s with heap := h, toks := tk })
    (done : ∀ m₁ news₁ h tk, J n m₁ news₁ → Fr h₀ env.locals h m₁ → News h₀ env.locals h news₁ → Q .next { s with heap := h, toks := tk }) :
    wpAny (model prog w) A (pyIter (.ref r)) (fun it s₂ => LoopAtV prog w A h₀ env x body Q E it s₂) E s := by
  refine wpAny_pyIter_range hr hsmall ?_
  have W : Walks prog w A s.heap.objs.size [s.heap.objs.size] [s.heap.objs.size] n (fun i v => i < n ∧ ∃ t, v = .int (a₀ + i * c₀) t)
      (fun i h => IsRangeIter h s.heap.objs.size (a₀ + (i : Nat) * c₀) ((n : Int) - (i : Nat)) c₀) := (Walks.range hh _ a₀ c₀ n).bound
  refine ⟨_, _, _, n, _, _, m₀, news, J, rfl, W, ?_, ?_, ?_, (by show IsRangeIter _ _ _ _ _; rw [hn]; simpa using Heap.get?_push_size _ rfl), F.push _, (fun p hp => ⟨Heap.get?_push_of_some _ (N p hp).1, (N p hp).2⟩), hj, ?_, ?_⟩
  · intro hm
    exact absurd F.ns.lt ((List.mem_singleton.mp hm) ▸ Nat.lt_irrefl _)
  · intro b hb
    rw [List.mem_singleton.mp hb]
    exact next_is_new F
  · intro p hp hI
    exact absurd (Heap.lt_size (N p hp).1) ((List.mem_singleton.mp hI) ▸ Nat.lt_irrefl _)
  · rintro i v m₁ news₁ s₁ own ⟨hh', tk', rfl⟩ hin hP hJ hoff hown _ hfp hst F₁ N₁
    obtain ⟨hlt, t, rfl⟩ := hP
    have hI0 : h₀.get? s.heap.objs.size = none := next_is_new F
    have hsep : OwnOff own (news₁.map (·.1)) := by
      intro p hp b hb e
      obtain ⟨q, hq, rfl⟩ := List.mem_map.mp hb
      exact hoff q hq (List.mem_singleton.mpr (e ▸ List.mem_singleton.mp (hown p hp)))
    have N₂ : News h₀ env.locals hh' (news₁ ++ own) := fun p hp => N₁ p ((List.mem_append.mp hp).elim (fun h => List.mem_append.mpr (.inr h)) fun h => List.mem_append.mpr (.inl h))
    refine wpAny_mono (turn i _ t m₁ news₁ hh' tk' own hlt hsep hJ F₁ N₂) (fun f s₂ p => ?_) fun _ _ e => e
    have fin : InvEndG h₀ env.locals (J (i + 1)) own { s with heap := hh', toks := tk' } s₂ → LoopStepU h₀ env.locals [s.heap.objs.size] own (J (i + 1)) { s with heap := hh', toks := tk' } .next s₂ := by
      rintro ⟨h', tk, m', news', nx, e, F', N', hn, ho, ha, hm⟩
      refine ⟨rfl, h', tk, m', nx, e, F', fun p hp => N' p ((List.mem_append.mp hp).elim (ho p) (hn p)), fun p hp hq => ?_, hm⟩
      have hIown : ∃ oI, (s.heap.objs.size, oI) ∈ own := by
        have q := hfp _ (.head _) hI0
        exact ⟨_, q _ hst⟩
      obtain ⟨oI, hIown⟩ := hIown
      exact ha _ hIown p.1 (List.mem_map.mpr ⟨p, hp, rfl⟩) (List.mem_singleton.mp hq).symm
    cases f with
    | ret v => exact .ret p
    | brk => exact .brk p
    | next => exact .next (fin p)
    | cont => exact .cont (fin p)
  · rintro h' tk m' news' F' N' _ hJ
    exact done m' news' h' tk hJ F' N'
end
end Mine

end
section
open PySem PySem.W PyProof.Rows PySem.Calls
set_option Elab.async false
set_option linter.all false
set_option maxRecDepth 100000
namespace Mine
abbrev Act := Nat × Int × Str
def applyL (b : Bk) (a : Act) : PR := if a.1 = 0 then .ok b else if a.1 = 1 then .sn else if a.1 = 2 then .ok (delB a.2.1 b) else .ok (putB a.2.1 a.2.2 b)
def applyR (b : Bk) (a : Act) : PR := if a.1 = 0 then .ok b else if a.1 = 1 then .sn else if a.1 = 2 then (if hasB a.2.1 b = true then .ok (delB a.2.1 b) else .ul) else .ok (putB a.2.1 a.2.2 b)
def nilS : Str := Str.ofString ""
def actLoad (x : Str) : Act :=
  if (Txt.stripChars (Txt.rstripChars x (Str.ofString "\r")) (Str.ofString " ") == Str.ofString "") = true then (0, 0, nilS)
  else match numR (Txt.rstripChars x (Str.ofString "\r")) with
    | none => (1, 0, nilS)
    | some (none, _) => (1, 0, nilS)
    | some (some n, r) => if (Txt.stripChars r (Str.ofString " ") == Str.ofString "") = true then (2, n, nilS) else (3, n, r)
def actRead (x : Str) : Act :=
  if (Txt.stripChars x (Str.ofString " \t\r") == Str.ofString "") = true then (0, 0, nilS)
  else match splitR (Txt.rstripChars x (Str.ofString "\r")) with
    | none => (1, 0, nilS)
    | some (none, _) => (1, 0, nilS)
    | some (some n, r) => if (r == Str.ofString "") = true then (2, n, nilS) else (3, n, r)
def actRows (x : Str) : Act :=
  if isRow x = true then (match partedR (Txt.rstripChars x (Str.ofString "\r")) with
    | none => (1, 0, nilS)
    | some (none, r) => (1, 0, nilS)
    | some (some n, r) => if (Txt.stripChars r (Str.ofString " ") != Str.ofString "") = true then (3, n, Txt.rstripChars r (Str.ofString " ")) else (2, n, nilS))
  else (0, 0, nilS)
theorem aL0 (b : Bk) (n : Int) (x : Str) : applyL b (0, n, x) = .ok b := rfl
theorem aL1 (b : Bk) (n : Int) (x : Str) : applyL b (1, n, x) = .sn := rfl
theorem aL2 (b : Bk) (n : Int) (x : Str) : applyL b (2, n, x) = .ok (delB n b) := rfl
theorem aL3 (b : Bk) (n : Int) (x : Str) : applyL b (3, n, x) = .ok (putB n x b) := rfl
theorem aR0 (b : Bk) (n : Int) (x : Str) : applyR b (0, n, x) = .ok b := rfl
theorem aR1 (b : Bk) (n : Int) (x : Str) : applyR b (1, n, x) = .sn := rfl
theorem aR2 (b : Bk) (n : Int) (x : Str) : applyR b (2, n, x) = if hasB n b = true then .ok (delB n b) else .ul := rfl
theorem aR3 (b : Bk) (n : Int) (x : Str) : applyR b (3, n, x) = .ok (putB n x b) := rfl
theorem loadStep_act (b : Bk) (x : Str) : loadStep b x = applyL b (actLoad x) := by
  unfold loadStep actLoad
  by_cases h : (Txt.stripChars (Txt.rstripChars x (Str.ofString "\r")) (Str.ofString " ") == Str.ofString "") = true
  · rw [if_pos h, if_pos h, aL0]
  · rw [if_neg h, if_neg h]
    rcases numR (Txt.rstripChars x (Str.ofString "\r")) with _ | ⟨_ | n, r⟩
    · exact (aL1 _ _ _).symm
    · exact (aL1 _ _ _).symm
    · dsimp only
      by_cases h2 : (Txt.stripChars r (Str.ofString " ") == Str.ofString "") = true
      · rw [if_pos h2, if_pos h2, aL2]
      · rw [if_neg h2, if_neg h2, aL3]
theorem readStep_act (b : Bk) (x : Str) : readStep b x = applyL b (actRead x) := by
  unfold readStep actRead
  by_cases h : (Txt.stripChars x (Str.ofString " \t\r") == Str.ofString "") = true
  · rw [if_pos h, if_pos h, aL0]
  · rw [if_neg h, if_neg h]
    rcases splitR (Txt.rstripChars x (Str.ofString "\r")) with _ | ⟨_ | n, r⟩
    · exact (aL1 _ _ _).symm
    · exact (aL1 _ _ _).symm
    · dsimp only
      by_cases h2 : (r == Str.ofString "") = true
      · rw [if_pos h2, if_pos h2, aL2]
      · rw [if_neg h2, if_neg h2, aL3]
theorem rowStep_act (b : Bk) (x : Str) : rowStep b x = applyR b (actRows x) := by
  unfold rowStep actRows enterR
  by_cases h : isRow x = true
  · rw [if_pos h, if_pos h]
    rcases partedR (Txt.rstripChars x (Str.ofString "\r")) with _ | ⟨_ | n, r⟩
    · exact (aR1 _ _ _).symm
    · exact (aR1 _ _ _).symm
    · dsimp only
      by_cases h2 : (Txt.stripChars r (Str.ofString " ") != Str.ofString "") = true
      · rw [if_pos h2, if_pos h2, aR3]
      · rw [if_neg h2, if_neg h2, aR2]
        by_cases h3 : hasB n b = true
        · rw [if_pos h3, if_pos h3]
        · rw [if_neg h3, if_neg h3]
  · rw [if_neg h, if_neg h, aR0]
def toldAt (c : Int) : Str := tolds.getD c.toNat Str.empty
def rowX (n f c : Int) : Str := rowTxt (numAt n) f (toldAt c)
def expAct (n f c : Int) : Act := if f = 0 then (2, numAt n, nilS) else if f = 1 then (0, 0, nilS) else if f = 2 then (1, 0, nilS) else (3, numAt n, toldAt c)
def readFine (x : Str) : Bool := match splitR (Txt.rstripChars x (Str.ofString "\r")) with
  | some (some _, r) => (r == Str.ofString "") || tolds.contains r
  | _ => true
def rowFine (n f c : Int) : Bool := decide (actLoad (rowX n f c) = expAct n f c) && decide (actRead (rowX n f c) = expAct n f c) && decide (actRows (rowX n f c) = expAct n f c) && decide ((rowX n f c).length ≤ 40) && !((rowX n f c).cps.toList.contains 10) && readFine (rowX n f c)
theorem rows_fine : ∀ n ∈ ([0, 1, 2, 3, 4] : List Int), ∀ f ∈ ([0, 1, 2, 3, 4, 5, 6, 7] : List Int), ∀ c ∈ ([0, 1, 2, 3, 4, 5] : List Int), rowFine n f c = true := by decide +kernel
end Mine

end
section
open PySem PySem.W PyProof.Rows PySem.Calls
set_option Elab.async false
set_option linter.all false
set_option maxRecDepth 100000
namespace Mine
abbrev eS : Str := Str.ofString ""
abbrev snS : Str := Str.ofString "SN"
abbrev ulS : Str := Str.ofString "UL"
def GoodRow (n f c : Int) : Prop := (n < 5 ∧ 0 ≤ n) ∧ (f < 8 ∧ 0 ≤ f) ∧ (c < 6 ∧ 0 ≤ c)
structure RowFine (n f c : Int) : Prop where
  load : actLoad (rowX n f c) = expAct n f c
  read : actRead (rowX n f c) = expAct n f c
  rows : actRows (rowX n f c) = expAct n f c
  len : (rowX n f c).length ≤ 40
  free : 10 ∉ (rowX n f c).cps.toList
  fine : readFine (rowX n f c) = true
theorem row_fine {n f c : Int} (h : GoodRow n f c) : RowFine n f c := by
  obtain ⟨⟨a1, a2⟩, ⟨b1, b2⟩, c1, c2⟩ := h
  have hn : n ∈ ([0, 1, 2, 3, 4] : List Int) := by simp; omega
  have hf : f ∈ ([0, 1, 2, 3, 4, 5, 6, 7] : List Int) := by simp; omega
  have hc : c ∈ ([0, 1, 2, 3, 4, 5] : List Int) := by simp; omega
  have := rows_fine n hn f hf c hc
  unfold rowFine at this
  simp only [Bool.and_eq_true, decide_eq_true_eq, Bool.not_eq_true'] at this
  obtain ⟨⟨⟨⟨⟨h1, h2⟩, h3⟩, h4⟩, h5⟩, h6⟩ := this
  refine ⟨h1, h2, h3, h4, fun q => ?_, h6⟩
  have e := List.elem_iff.mpr q
  rw [show List.contains _ _ = List.elem _ _ from rfl] at h5
  rw [e] at h5
  cases h5
def stepB (b : Bk) (n f c : Int) : Bk := if f = 0 then delB (numAt n) b else if f = 1 then b else if f = 2 then b else putB (numAt n) (toldAt c) b
def stepR (R : Str) (f : Int) : Str := if f = 2 then snS else R
def stepS (S : Str) (b : Bk) (n f : Int) : Str := if f = 2 then (if (S != eS) = true then S else snS) else if f = 0 then (if (S == eS) = true ∧ hasB (numAt n) b = false then ulS else S) else S
inductive Hist : Nat → List Str → Bk → Str → Str → Prop
  | nil : Hist 0 [] [] eS eS
  | step {i xs b R S n f c} : Hist i xs b R S → GoodRow n f c → Hist (i + 1) (xs ++ [rowX n f c]) (stepB b n f c) (stepR R f) (stepS S b n f)
theorem foldR_snoc (g : Bk → Str → PR) (y : Str) : ∀ (xs : List Str) (b : Bk), foldR g b (xs ++ [y]) = match foldR g b xs with | .ok b' => g b' y | .sn => .sn | .ul => .ul
  | [], b => by
    show (match g b y with | .ok b' => PR.ok b' | .sn => .sn | .ul => .ul) = g b y
    cases g b y <;> rfl
  | x :: r, b => by
    rw [List.cons_append, foldR, foldR]
    cases g b x with
    | ok b1 => exact foldR_snoc g y r b1
    | sn => rfl
    | ul => rfl
theorem rowsF_snoc (y : Str) : ∀ (xs : List Str) (b : Bk), rowsF b (xs ++ [y]) = match rowsF b xs with | .ok b' => rowStep b' y | .sn => .sn | .ul => .ul
  | [], b => by
    show (match rowStep b y with | .ok b' => PR.ok b' | .sn => .sn | .ul => .ul) = rowStep b y
    cases rowStep b y <;> rfl
  | x :: r, b => by
    rw [List.cons_append, rowsF, rowsF]
    cases rowStep b x with
    | ok b1 => exact rowsF_snoc y r b1
    | sn => rfl
    | ul => rfl
def St (xs : List Str) (b : Bk) (R S : Str) : Prop :=
  (R = eS ∧ ((S = eS ∧ rowsF [] xs = .ok b) ∨ (S = ulS ∧ rowsF [] xs = .ul)) ∧ foldR loadStep [] xs = .ok b ∧ foldR readStep [] xs = .ok b) ∨
  (R = snS ∧ ((S = snS ∧ rowsF [] xs = .sn) ∨ (S = ulS ∧ rowsF [] xs = .ul)) ∧ foldR loadStep [] xs = .sn ∧ foldR readStep [] xs = .sn)
theorem form_cases {f : Int} (h : 0 ≤ f) : f = 0 ∨ f = 1 ∨ f = 2 ∨ (f ≠ 0 ∧ f ≠ 1 ∧ f ≠ 2) := by omega
theorem exp3 {n f c : Int} (h0 : f ≠ 0) (h1 : f ≠ 1) (h2 : f ≠ 2) : expAct n f c = (3, numAt n, toldAt c) ∧ (∀ b, stepB b n f c = putB (numAt n) (toldAt c) b) ∧ (∀ R, stepR R f = R) ∧ (∀ S b, stepS S b n f = S) := by
  unfold expAct stepB stepR stepS
  rw [if_neg h0, if_neg h1, if_neg h2]
  exact ⟨rfl, fun b => by rw [if_neg h0, if_neg h1, if_neg h2], fun R => by rw [if_neg h2], fun S b => by rw [if_neg h2, if_neg h0]⟩
theorem hist_st {i : Nat} {xs : List Str} {b : Bk} {R S : Str} (h : Hist i xs b R S) : St xs b R S := by
  induction h with
  | nil => exact .inl ⟨rfl, .inl ⟨rfl, rfl⟩, rfl, rfl⟩
  | @step i xs b R S n f c _ hg ih =>
    have hf := row_fine hg
    have l1 : ∀ b, loadStep b (rowX n f c) = applyL b (expAct n f c) := fun b => by rw [loadStep_act, hf.load]
    have l2 : ∀ b, readStep b (rowX n f c) = applyL b (expAct n f c) := fun b => by rw [readStep_act, hf.read]
    have l3 : ∀ b, rowStep b (rowX n f c) = applyR b (expAct n f c) := fun b => by rw [rowStep_act, hf.rows]
    have d1 : (ulS != eS) = true := by decide +kernel
    have d2 : (snS != eS) = true := by decide +kernel
    have d3 : (eS != eS) = false := by decide +kernel
    have d4 : (ulS == eS) = false := by decide +kernel
    have d5 : (snS == eS) = false := by decide +kernel
    have d6 : (eS == eS) = true := by decide +kernel
    rcases form_cases hg.2.1.2 with rfl | rfl | rfl | ⟨h0, h1, h2⟩
    · have e : expAct n 0 c = (2, numAt n, nilS) := rfl
      have eb : stepB b n 0 c = delB (numAt n) b := rfl
      have er : stepR R 0 = R := rfl
      have es : stepS S b n 0 = if (S == eS) = true ∧ hasB (numAt n) b = false then ulS else S := rfl
      rw [e] at l1 l2 l3
      unfold St
      rw [foldR_snoc, foldR_snoc, rowsF_snoc, eb, er, es]
      rcases ih with ⟨rfl, hs, a1, a2⟩ | ⟨rfl, hs, a1, a2⟩
      · refine .inl ⟨rfl, ?_, by rw [a1]; exact l1 b, by rw [a2]; exact l2 b⟩
        rcases hs with ⟨rfl, hr⟩ | ⟨rfl, hr⟩
        · rw [hr]
          cases hb : hasB (numAt n) b with
          | true => exact .inl ⟨by rw [if_neg (fun q => by cases q.2)], by show rowStep b _ = _; rw [l3, aR2, if_pos hb]⟩
          | false => exact .inr ⟨by rw [if_pos ⟨d6, rfl⟩], by show rowStep b _ = _; rw [l3, aR2, if_neg (by rw [hb]; decide)]⟩
        · rw [hr]
          exact .inr ⟨by rw [if_neg (fun q => by rw [d4] at q; cases q.1)], rfl⟩
      · refine .inr ⟨rfl, ?_, by rw [a1], by rw [a2]⟩
        rcases hs with ⟨rfl, hr⟩ | ⟨rfl, hr⟩
        · rw [hr]
          exact .inl ⟨by rw [if_neg (fun q => by rw [d5] at q; cases q.1)], rfl⟩
        · rw [hr]
          exact .inr ⟨by rw [if_neg (fun q => by rw [d4] at q; cases q.1)], rfl⟩
    · have e : expAct n 1 c = (0, 0, nilS) := rfl
      have eb : stepB b n 1 c = b := rfl
      have er : stepR R 1 = R := rfl
      have es : stepS S b n 1 = S := rfl
      rw [e] at l1 l2 l3
      unfold St
      rw [foldR_snoc, foldR_snoc, rowsF_snoc, eb, er, es]
      rcases ih with ⟨rfl, hs, a1, a2⟩ | ⟨rfl, hs, a1, a2⟩
      · refine .inl ⟨rfl, ?_, by rw [a1]; exact l1 b, by rw [a2]; exact l2 b⟩
        rcases hs with ⟨rfl, hr⟩ | ⟨rfl, hr⟩
        · rw [hr]; exact .inl ⟨rfl, l3 b⟩
        · rw [hr]; exact .inr ⟨rfl, rfl⟩
      · refine .inr ⟨rfl, ?_, by rw [a1], by rw [a2]⟩
        rcases hs with ⟨rfl, hr⟩ | ⟨rfl, hr⟩
        · rw [hr]; exact .inl ⟨rfl, rfl⟩
        · rw [hr]; exact .inr ⟨rfl, rfl⟩
    · have e : expAct n 2 c = (1, 0, nilS) := rfl
      have eb : stepB b n 2 c = b := rfl
      have er : stepR R 2 = snS := rfl
      have es : stepS S b n 2 = if (S != eS) = true then S else snS := rfl
      rw [e] at l1 l2 l3
      unfold St
      rw [foldR_snoc, foldR_snoc, rowsF_snoc, eb, er, es]
      rcases ih with ⟨rfl, hs, a1, a2⟩ | ⟨rfl, hs, a1, a2⟩
      · refine .inr ⟨rfl, ?_, by rw [a1]; exact l1 b, by rw [a2]; exact l2 b⟩
        rcases hs with ⟨rfl, hr⟩ | ⟨rfl, hr⟩
        · rw [hr]; exact .inl ⟨by rw [if_neg (by rw [d3]; decide)], l3 b⟩
        · rw [hr]; exact .inr ⟨by rw [if_pos d1], rfl⟩
      · refine .inr ⟨rfl, ?_, by rw [a1], by rw [a2]⟩
        rcases hs with ⟨rfl, hr⟩ | ⟨rfl, hr⟩
        · rw [hr]; exact .inl ⟨by rw [if_pos d2], rfl⟩
        · rw [hr]; exact .inr ⟨by rw [if_pos d1], rfl⟩
    · obtain ⟨e, eb, er, es⟩ := exp3 (n := n) (c := c) h0 h1 h2
      rw [e] at l1 l2 l3
      unfold St
      rw [foldR_snoc, foldR_snoc, rowsF_snoc, eb, er, es]
      rcases ih with ⟨rfl, hs, a1, a2⟩ | ⟨rfl, hs, a1, a2⟩
      · refine .inl ⟨rfl, ?_, by rw [a1]; exact l1 b, by rw [a2]; exact l2 b⟩
        rcases hs with ⟨rfl, hr⟩ | ⟨rfl, hr⟩
        · rw [hr]; exact .inl ⟨rfl, l3 b⟩
        · rw [hr]; exact .inr ⟨rfl, rfl⟩
      · refine .inr ⟨rfl, ?_, by rw [a1], by rw [a2]⟩
        rcases hs with ⟨rfl, hr⟩ | ⟨rfl, hr⟩
        · rw [hr]; exact .inl ⟨rfl, rfl⟩
        · rw [hr]; exact .inr ⟨rfl, rfl⟩
end Mine

end
section
open PySem PySem.W PyProof.Rows PySem.Calls
set_option Elab.async false
set_option linter.all false
set_option maxRecDepth 100000
namespace Mine
abbrev nlS : Str := Str.ofString "\n"
theorem put_old {k : Int} {x : Str} {b : Bk} (h : b.any (fun p => decide (p.1 = k)) = true) : keysB (putB k x b) = keysB b := by
  unfold putB keysB
  rw [if_pos h, List.map_map]
  congr 1
  funext p
  show (if p.1 = k then (p.1, x) else p).1 = p.1
  split <;> rfl
theorem put_new {k : Int} {x : Str} {b : Bk} (h : k ∉ keysB b) : putB k x b = b ++ [(k, x)] := by
  unfold putB
  rw [if_neg]
  intro q
  obtain ⟨p, hp, e⟩ := List.any_eq_true.mp q
  exact h (List.mem_map.mpr ⟨p, hp, of_decide_eq_true e⟩)
theorem any_key {k : Int} {b : Bk} : b.any (fun p => decide (p.1 = k)) = true ↔ k ∈ keysB b := by
  unfold keysB
  rw [List.any_eq_true, List.mem_map]
  constructor
  · rintro ⟨p, hp, e⟩; exact ⟨p, hp, of_decide_eq_true e⟩
  · rintro ⟨p, hp, e⟩; exact ⟨p, hp, decide_eq_true e⟩
theorem nodup_put {k : Int} {x : Str} {b : Bk} (h : (keysB b).Nodup) : (keysB (putB k x b)).Nodup := by
  by_cases q : k ∈ keysB b
  · rw [put_old (any_key.mpr q)]; exact h
  · rw [put_new q]
    unfold keysB at *
    rw [List.map_append]
    refine List.nodup_append.mpr ⟨h, by simp, ?_⟩
    intro a ha c hc e
    simp only [List.map_cons, List.map_nil, List.mem_singleton] at hc
    subst hc
    exact q (e ▸ ha)
theorem nodup_del {k : Int} {b : Bk} (h : (keysB b).Nodup) : (keysB (delB k b)).Nodup := h.sublist (List.Sublist.map _ List.filter_sublist)
theorem ok_put {k : Int} {x : Str} {b : Bk} (h : BkOK b) (hk : KeyOK k) (hx : x ∈ tolds) : BkOK (putB k x b) := by
  unfold putB
  intro p hp
  split at hp
  · obtain ⟨q, hq, rfl⟩ := List.mem_map.mp hp
    have := h q hq
    split
    · exact ⟨this.1, hx⟩
    · exact this
  · rcases List.mem_append.mp hp with e | e
    · exact h p e
    · rw [List.mem_singleton.mp e]; exact ⟨hk, hx⟩
theorem ok_del {k : Int} {b : Bk} (h : BkOK b) : BkOK (delB k b) := fun p hp => h p (List.mem_filter.mp hp).1
theorem numAt_ok {n : Int} (h : n < 5 ∧ 0 ≤ n) : KeyOK (numAt n) := by
  have : n = 0 ∨ n = 1 ∨ n = 2 ∨ n = 3 ∨ n = 4 := by omega
  unfold KeyOK
  rcases this with rfl | rfl | rfl | rfl | rfl <;> decide
theorem toldAt_ok {c : Int} (h : c < 6 ∧ 0 ≤ c) : toldAt c ∈ tolds := by
  have : c = 0 ∨ c = 1 ∨ c = 2 ∨ c = 3 ∨ c = 4 ∨ c = 5 := by omega
  rcases this with rfl | rfl | rfl | rfl | rfl | rfl
  · exact .head _
  · exact .tail _ (.head _)
  · exact .tail _ (.tail _ (.head _))
  · exact .tail _ (.tail _ (.tail _ (.head _)))
  · exact .tail _ (.tail _ (.tail _ (.tail _ (.head _))))
  · exact .tail _ (.tail _ (.tail _ (.tail _ (.tail _ (.head _)))))
structure Inv (i : Nat) (xs : List Str) (b : Bk) : Prop where
  ok : BkOK b
  nd : (keysB b).Nodup
  few : b.length ≤ i
  len : xs.length = i
  rows : ∀ x ∈ xs, x.length ≤ 40 ∧ 10 ∉ x.cps.toList ∧ readFine x = true
theorem hist_inv {i : Nat} {xs : List Str} {b : Bk} {R S : Str} (h : Hist i xs b R S) : Inv i xs b := by
  induction h with
  | nil => exact ⟨fun p hp => (by cases hp), List.nodup_nil, Nat.le_refl _, rfl, fun x hx => (by cases hx)⟩
  | @step i xs b R S n f c _ hg ih =>
    have hf := row_fine hg
    obtain ⟨a1, a2, a3, a4, a5⟩ := ih
    have hl : (xs ++ [rowX n f c]).length = i + 1 := by rw [List.length_append, a4]; rfl
    have hr : ∀ x ∈ xs ++ [rowX n f c], x.length ≤ 40 ∧ 10 ∉ x.cps.toList ∧ readFine x = true := fun x hx => by
      rcases List.mem_append.mp hx with e | e
      · exact a5 x e
      · rw [List.mem_singleton.mp e]; exact ⟨hf.len, hf.free, hf.fine⟩
    rcases form_cases hg.2.1.2 with rfl | rfl | rfl | ⟨h0, h1, h2⟩
    · have eb : stepB b n 0 c = delB (numAt n) b := rfl
      rw [eb]
      exact ⟨ok_del a1, nodup_del a2, Nat.le_trans (delB_len _ _) (by omega), hl, hr⟩
    · exact ⟨a1, a2, by show b.length ≤ _; omega, hl, hr⟩
    · exact ⟨a1, a2, by show b.length ≤ _; omega, hl, hr⟩
    · rw [(exp3 (n := n) (c := c) h0 h1 h2).2.1]
      exact ⟨ok_put a1 (numAt_ok hg.1) (toldAt_ok hg.2.2), nodup_put a2, Nat.le_trans (putB_len _ _ _) (by omega), hl, hr⟩
def lineFine (k : Int) (z : Str) : Bool := decide (actLoad (rowOf k z) = (3, k, z)) && decide (actRead (rowOf k z) = (3, k, z)) && decide (actRows (rowOf k z) = (3, k, z)) && decide ((rowOf k z).length ≤ 20) && !((rowOf k z).cps.toList.contains 10) && readFine (rowOf k z)
theorem lines_fine : ∀ k ∈ ([0, 10, 20, 65529] : List Int), ∀ z ∈ tolds, lineFine k z = true := by decide +kernel
structure LineFine (k : Int) (z : Str) : Prop where
  load : actLoad (rowOf k z) = (3, k, z)
  read : actRead (rowOf k z) = (3, k, z)
  rows : actRows (rowOf k z) = (3, k, z)
  len : (rowOf k z).length ≤ 20
  free : 10 ∉ (rowOf k z).cps.toList
  fine : readFine (rowOf k z) = true
theorem line_fine {k : Int} {z : Str} (hk : KeyOK k) (hz : z ∈ tolds) : LineFine k z := by
  have hk' : k ∈ ([0, 10, 20, 65529] : List Int) := by simp; exact hk
  have := lines_fine k hk' z hz
  unfold lineFine at this
  simp only [Bool.and_eq_true, decide_eq_true_eq, Bool.not_eq_true'] at this
  obtain ⟨⟨⟨⟨⟨h1, h2⟩, h3⟩, h4⟩, h5⟩, h6⟩ := this
  refine ⟨h1, h2, h3, h4, fun q => ?_, h6⟩
  have e := List.elem_iff.mpr q
  rw [show List.contains _ _ = List.elem _ _ from rfl] at h5
  rw [e] at h5
  cases h5
theorem rowsF_eq : ∀ (xs : List Str) (b : Bk), rowsF b xs = foldR rowStep b xs
  | [], _ => rfl
  | x :: r, b => by
    rw [rowsF, foldR]
    cases rowStep b x with
    | ok b1 => exact rowsF_eq r b1
    | sn => rfl
    | ul => rfl
theorem fold_lines {g : Bk → Str → PR} {bk : Bk} (hok : BkOK bk) (hg : ∀ b k z, KeyOK k → z ∈ tolds → g b (rowOf k z) = .ok (putB k z b)) : ∀ (ks : List Int) (acc : Bk), ks.Nodup → (∀ k ∈ ks, k ∈ keysB bk) → (∀ k ∈ ks, k ∉ keysB acc) →
    foldR g acc (ks.map fun k => rowOf k (lookG k bk)) = .ok (acc ++ ks.map fun k => (k, lookG k bk))
  | [], acc, _, _, _ => by rw [List.map_nil, List.map_nil, List.append_nil]; rfl
  | k :: ks, acc, hn, hm, ha => by
    have q := hok.at (mem_hasB (hm k (.head _)))
    rw [List.map_cons, List.map_cons, foldR, hg acc k _ q.1 q.2, put_new (ha k (.head _))]
    have hn' := List.nodup_cons.mp hn
    have := fold_lines hok hg ks (acc ++ [(k, lookG k bk)]) hn'.2 (fun j hj => hm j (.tail _ hj)) (fun j hj hh => by
      unfold keysB at hh
      rw [List.map_append] at hh
      rcases List.mem_append.mp hh with e | e
      · exact ha j (.tail _ hj) e
      · simp only [List.map_cons, List.map_nil, List.mem_singleton] at e
        subst e
        exact hn'.1 hj)
    dsimp only
    rw [this, List.append_assoc]
    rfl
theorem app_e (x : Str) : x ++ eS = x := str_ext (by rw [cps_append]; show _ ++ [] = _; rw [List.append_nil])
theorem e_app (x : Str) : eS ++ x = x := str_ext (by rw [cps_append]; rfl)
theorem join_nl : ∀ rows : List Str, Str.join eS (rows.map fun z => z ++ nlS) = Str.join nlS (rows ++ [eS])
  | [] => by decide +kernel
  | [a] => by
    show a ++ nlS = a ++ nlS ++ eS
    rw [app_e]
  | a :: b :: r => by
    have := join_nl (b :: r)
    show (a ++ nlS) ++ eS ++ Str.join eS ((b :: r).map fun z => z ++ nlS) = a ++ nlS ++ Str.join nlS ((b :: r) ++ [eS])
    rw [this, app_e]
theorem join_end : ∀ xs : List Str, xs ≠ [] → Str.join nlS xs ++ nlS = Str.join nlS (xs ++ [eS])
  | [a], _ => by
    show a ++ nlS = a ++ nlS ++ eS
    rw [app_e]
  | a :: b :: r, _ => by
    have := join_end (b :: r) (List.cons_ne_nil _ _)
    show (a ++ nlS ++ Str.join nlS (b :: r)) ++ nlS = a ++ nlS ++ Str.join nlS ((b :: r) ++ [eS])
    rw [← this]
    exact str_ext (by simp only [cps_append, List.append_assoc])
theorem nl_is : nlS = ⟨#[10]⟩ := by decide +kernel
theorem split_nl (l : List Str) (hne : l ≠ []) (hf : ∀ t ∈ l, 10 ∉ t.cps.toList) : Txt.split (Str.join nlS l) nlS = l := by
  rw [nl_is]; exact split_join 10 l hne hf
theorem free_end {l : List Str} (hf : ∀ t ∈ l, 10 ∉ t.cps.toList) : ∀ t ∈ l ++ [eS], 10 ∉ t.cps.toList := fun t ht => by
  rcases List.mem_append.mp ht with e | e
  · exact hf t e
  · rw [List.mem_singleton.mp e]; exact fun q => by cases q
theorem txt_join (sep : Str) (l : List Str) : Txt.join sep l = Str.join sep l := StrLaws.glued_eq_join sep l
theorem read_ok {y : Str} (h : readFine y = true) : ReadOK y := fun n r e hr => by
  unfold readFine at h
  rw [e] at h
  dsimp only at h
  rw [hr, Bool.false_or] at h
  exact List.contains_iff_mem.mp h
theorem load_e (b : Bk) : loadStep b eS = .ok b := loadStep_skip (by decide +kernel)
theorem read_e (b : Bk) : readStep b eS = .ok b := readStep_skip (by decide +kernel)
theorem fold_end {g : Bk → Str → PR} (hg : ∀ b, g b eS = .ok b) (xs : List Str) (b : Bk) : foldR g b (xs ++ [eS]) = foldR g b xs := by
  rw [foldR_snoc]
  cases foldR g b xs with
  | ok b1 => exact hg b1
  | sn => rfl
  | ul => rfl
theorem kept_facts {i : Nat} {xs : List Str} {b : Bk} (h : Inv i xs b) (hi : i ≤ 10) : KeptFacts b := by
  have hks : ∀ k ∈ sortI (keysB b), k ∈ keysB b := fun k hk => sort_mem.mp hk
  have hnd : (sortI (keysB b)).Nodup := (List.mergeSort_perm _ _).nodup_iff.mpr h.nd
  have hfew : b.length ≤ 10 := Nat.le_trans h.few hi
  have hline : ∀ x ∈ rowsOf b, x.length ≤ 20 ∧ 10 ∉ x.cps.toList ∧ readFine x = true := fun x hx => by
    obtain ⟨k, hk, rfl⟩ := List.mem_map.mp hx
    have q := h.ok.at (mem_hasB (hks k hk))
    have := line_fine q.1 q.2
    exact ⟨this.len, this.free, this.fine⟩
  have hmap : ((rowsOf b).map fun z => z ++ nlS) = (sortI (keysB b)).map fun k => lineOf k (lookG k b) := by
    unfold rowsOf
    rw [List.map_map]
    rfl
  have hjoin : Txt.join eS ((rowsOf b).map fun z => z ++ nlS) = bookText b := by rw [hmap]; rfl
  have htext : bookText b = Str.join nlS (rowsOf b ++ [eS]) := by rw [← hjoin, txt_join, join_nl]
  have hsplit : Txt.split (bookText b) nlS = rowsOf b ++ [eS] := by
    rw [htext]
    exact split_nl _ (by simp) (free_end fun t ht => (hline t ht).2.1)
  have hsame : Same ((sortI (keysB b)).map fun k => (k, lookG k b)) b := ⟨by rw [List.length_map, sort_len, keys_len], fun p hp => by
    obtain ⟨k, hk, rfl⟩ := List.mem_map.mp hp
    exact mem_hasB (hks k hk)⟩
  have hfold : ∀ g : Bk → Str → PR, (∀ b k z, KeyOK k → z ∈ tolds → g b (rowOf k z) = .ok (putB k z b)) → foldR g [] (rowsOf b) = .ok ((sortI (keysB b)).map fun k => (k, lookG k b)) := fun g hg =>
    fold_lines h.ok hg _ [] hnd hks (fun k hk q => by cases q)
  have hlen : (rowsOf b).length ≤ 10 := by unfold rowsOf; rw [List.length_map, sort_len, keys_len]; exact hfew
  refine ⟨hfew, h.ok, by omega, fun x hx => Nat.le_trans (hline x hx).1 (by decide), ?_, hjoin, ⟨_, ?_, hsame⟩, ⟨_, ?_, hsame⟩, ⟨_, ?_, hsame⟩, ?_, ?_⟩
  · rw [hmap]
    exact lines_weight hfew h.ok
  · rw [hsplit, fold_end load_e]
    exact hfold loadStep fun b k z hk hz => by rw [loadStep_act, (line_fine hk hz).load, aL3]
  · rw [hsplit, fold_end read_e]
    exact hfold readStep fun b k z hk hz => by rw [readStep_act, (line_fine hk hz).read, aL3]
  · rw [rowsF_eq]
    exact hfold rowStep fun b k z hk hz => by rw [rowStep_act, (line_fine hk hz).rows, aR3]
  · rw [htext]
    have h1 := StrLaws.join_length_le nlS (rowsOf b ++ [eS])
    have h2 : ((rowsOf b ++ [eS]).map (·.length)).sum ≤ (rowsOf b ++ [eS]).length * 20 := by
      have := sum_le (B := 20) (l := (rowsOf b ++ [eS]).map (·.length)) (fun n hn => by
        obtain ⟨x, hx, rfl⟩ := List.mem_map.mp hn
        rcases List.mem_append.mp hx with e | e
        · exact (hline x e).1
        · rw [List.mem_singleton.mp e]; decide)
      rw [List.length_map] at this
      exact this
    have h3 : (rowsOf b ++ [eS]).length ≤ 11 := by rw [List.length_append]; simp; omega
    have h4 : nlS.length = 1 := rfl
    rw [h4] at h1
    have := Nat.mul_le_mul_right 20 h3
    omega
  · intro y hy
    rw [hsplit] at hy
    rcases List.mem_append.mp hy with e | e
    · exact read_ok (hline y e).2.2
    · rw [List.mem_singleton.mp e]; exact read_ok (by decide +kernel)
structure TailFacts (xs : List Str) (b : Bk) : Prop where
  load : foldR loadStep [] (Txt.split (Txt.join nlS xs) nlS) = foldR loadStep [] xs
  read : foldR readStep [] (Txt.split (Txt.join nlS xs ++ nlS) nlS) = foldR readStep [] xs
  len1 : (Txt.join nlS xs).length ≤ 500
  len2 : (Txt.join nlS xs ++ nlS).length ≤ 600
  readOK : ∀ y ∈ Txt.split (Txt.join nlS xs ++ nlS) nlS, ReadOK y
  few : xs.length ≤ 60
  each : ∀ x ∈ xs, x.length ≤ 1000
  weight : (xs.map (·.length)).sum + xs.length ≤ 1048576
  kept : KeptFacts b
theorem tail_facts {i : Nat} {xs : List Str} {b : Bk} (h : Inv (i + 1) xs b) (hi : i + 1 ≤ 5) : TailFacts xs b := by
  have hl := h.len
  have hne : xs ≠ [] := fun e => by rw [e] at hl; cases hl
  have hfree : ∀ t ∈ xs, 10 ∉ t.cps.toList := fun t ht => (h.rows t ht).2.1
  have e1 : Txt.split (Txt.join nlS xs) nlS = xs := by rw [txt_join]; exact split_nl _ hne hfree
  have e2 : Txt.split (Txt.join nlS xs ++ nlS) nlS = xs ++ [eS] := by rw [txt_join, join_end _ hne]; exact split_nl _ (by simp) (free_end hfree)
  have s1 := sum_le (B := 40) (l := xs.map (·.length)) (fun n hn => by
    obtain ⟨x, hx, rfl⟩ := List.mem_map.mp hn
    exact (h.rows x hx).1)
  rw [List.length_map] at s1
  have s2 : xs.length * 40 ≤ 5 * 40 := Nat.mul_le_mul_right 40 (by omega)
  have len1 : (Txt.join nlS xs).length ≤ 500 := by
    rw [txt_join]
    have h1 := StrLaws.join_length_le nlS xs
    have h4 : nlS.length = 1 := rfl
    rw [h4] at h1
    omega
  refine ⟨by rw [e1], by rw [e2, fold_end read_e], len1, ?_, ?_, by omega, fun x hx => Nat.le_trans (h.rows x hx).1 (by decide), by omega, kept_facts h (by omega)⟩
  · rw [Str.length_append]
    have h4 : nlS.length = 1 := rfl
    omega
  · intro y hy
    rw [e2] at hy
    rcases List.mem_append.mp hy with e | e
    · exact read_ok (h.rows y e).2.2
    · rw [List.mem_singleton.mp e]; exact read_ok (by decide +kernel)
end Mine

end
section
open PySem PySem.W PyProof.Rows PySem.Calls
set_option Elab.async false
set_option linter.all false
set_option maxRecDepth 100000
namespace Mine
section
variable {w : World} {h₀ : Heap} {L j cl r d : Addr} {oc : Obj} {own : Led} {m : Str → Option Value}
abbrev nJar : Str := Str.ofString "jar"
abbrev nRows : Str := Str.ofString "rows"
abbrev nBook : Str := Str.ofString "book"
abbrev nRef : Str := Str.ofString "refused"
abbrev nLost : Str := Str.ofString "lost"
def Names (j r d : Addr) (R S : Str) (tR tS : Tok) (m : Str → Option Value) : Prop := m nJar = some (.ref j) ∧ m nRows = some (.ref r) ∧ m nBook = some (.ref d) ∧ m nRef = some (.str R tR) ∧ m nLost = some (.str S tS)
theorem five {m : Str → Option Value} {a b c d e : Str} {va vb vc vd ve : Value} (h1 : m a = some va) (h2 : m b = some vb) (h3 : m c = some vc) (h4 : m d = some vd) (h5 : m e = some ve) :
    m = fun y => if y = a then some va else if y = b then some vb else if y = c then some vc else if y = d then some vd else if y = e then some ve else m y := by
  funext y
  by_cases e1 : y = a
  · rw [if_pos e1, e1, h1]
  rw [if_neg e1]
  by_cases e1 : y = b
  · rw [if_pos e1, e1, h2]
  rw [if_neg e1]
  by_cases e1 : y = c
  · rw [if_pos e1, e1, h3]
  rw [if_neg e1]
  by_cases e1 : y = d
  · rw [if_pos e1, e1, h4]
  rw [if_neg e1]
  by_cases e1 : y = e
  · rw [if_pos e1, e1, h5]
  rw [if_neg e1]
def withN (j r d : Addr) (R S : Str) (tR tS : Tok) (m : Str → Option Value) : Str → Option Value := fun y => if y = nJar then some (.ref j) else if y = nRows then some (.ref r) else if y = nBook then some (.ref d) else if y = nRef then some (.str R tR) else if y = nLost then some (.str S tS) else m y
theorem Names.fr {R S : Str} {tR tS : Tok} {h : Heap} (hn : Names j r d R S tR tS m) (F : Fr h₀ L h m) : Fr h₀ L h (fun y => if y = nJar then some (.ref j) else if y = nRows then some (.ref r) else if y = nBook then some (.ref d) else if y = nRef then some (.str R tR) else if y = nLost then some (.str S tS) else m y) := by
  have := five hn.1 hn.2.1 hn.2.2.1 hn.2.2.2.1 hn.2.2.2.2
  rw [← this]; exact F
theorem Names.fr1 {R S : Str} {tR tS : Tok} {h : Heap} {x : Str} {v : Value} (hn : Names j r d R S tR tS m) (F : Fr h₀ L h (fun y => if y = x then some v else m y)) : Fr h₀ L h (fun y => if y = x then some v else (if y = nJar then some (.ref j) else if y = nRows then some (.ref r) else if y = nBook then some (.ref d) else if y = nRef then some (.str R tR) else if y = nLost then some (.str S tS) else m y)) := by
  have := five hn.1 hn.2.1 hn.2.2.1 hn.2.2.2.1 hn.2.2.2.2
  have e : (fun y => if y = x then some v else (if y = nJar then some (.ref j) else if y = nRows then some (.ref r) else if y = nBook then some (.ref d) else if y = nRef then some (.str R tR) else if y = nLost then some (.str S tS) else m y)) = fun y => if y = x then some v else m y := by
    funext y
    exact congrArg (fun z => if y = x then some v else z) (congrFun this y).symm
  rw [e]; exact F
def LawJ (w : World) (j cl r d : Addr) (oc : Obj) (i : Nat) (m : Str → Option Value) (nx : Led) : Prop :=
  ∃ xs b R S vs c3 t3 c o tR tS, Names j r d R S tR tS m ∧ nx = [(j, jarObj cl (3 * (i : Int) + 1) t3 c), (cl, oc), (r, listOf vs.toArray c3), (d, o)] ∧ StrsAre vs xs ∧ IsBook w o b ∧ Hist i xs b R S
def CutS (w : World) (h₀ : Heap) (L j cl r d : Addr) (oc : Obj) (i : Nat) (own : Led) (g : Array GenState) (dr : Drawn) (os : OsState) (f : Flow) (s₂ : Shared) : Prop :=
  f = .next ∧ ∃ h tk m xs b R S vs c3 t3 c o tR tS, s₂ = ⟨h, g, dr, tk, os⟩ ∧ Fr h₀ L h m ∧ News h₀ L h ((j, jarObj cl (3 * (i : Int) + 1 + 1 + 1 + 1) t3 c) :: (cl, oc) :: (r, listOf vs.toArray c3) :: (d, o) :: own) ∧ Names j r d R S tR tS m ∧ StrsAre vs xs ∧ IsBook w o b ∧ Hist (i + 1) xs b R S
theorem cut_go {M : Model} {A : Around} {x : Sem Flow} {Q : Flow → Shared → Prop} {E : Value → Shared → Prop} {s : Shared} {i : Nat} {o0 : Obj} {b0 : Bk} (F0 : Fr h₀ L s.heap m) (B0 : IsBook w o0 b0)
    (h1 : wpAny M A x (CutS w h₀ L j cl r d oc i own s.gens s.drawn s.os) E s)
    (h2 : ∀ (h : Heap) (tk : Nat) (m : Str → Option Value) (xs : List Str) (b : Bk) (R S : Str) (vs : List Value) (c3 : Nat) (t3 : Tok) (c : Nat) (o : Obj) (tR tS : Tok), Fr h₀ L h (fun y => if y = nJar then some (.ref j) else if y = nRows then some (.ref r) else if y = nBook then some (.ref d) else if y = nRef then some (.str R tR) else if y = nLost then some (.str S tS) else m y) → News h₀ L h ((j, jarObj cl (3 * (i : Int) + 1 + 1 + 1 + 1) t3 c) :: (cl, oc) :: (r, listOf vs.toArray c3) :: (d, o) :: own) → StrsAre vs xs → IsBook w o b → Hist (i + 1) xs b R S → Q .next ⟨h, s.gens, s.drawn, tk, s.os⟩) :
    wpAny M A x Q E s :=
  wpAny_mono h1 (fun f s₂ q => by
    obtain ⟨rfl, h, tk, m, xs, b, R, S, vs, c3, t3, c, o, tR, tS, rfl, F, N, hn, hs, hb, hh⟩ := q
    exact h2 h tk m xs b R S vs c3 t3 c o tR tS (hn.fr F) N hs hb hh) fun _ _ e => e
theorem cut_in {i : Nat} {g : Array GenState} {dr : Drawn} {os : OsState} {h : Heap} {tk : Nat} {xs : List Str} {b : Bk} {R S : Str} {vs : List Value} {c3 c : Nat} {t3 tR tS : Tok} {o : Obj}
    (F : Fr h₀ L h m) (N : News h₀ L h ((j, jarObj cl (3 * (i : Int) + 1 + 1 + 1 + 1) t3 c) :: (cl, oc) :: (r, listOf vs.toArray c3) :: (d, o) :: own)) (hn : Names j r d R S tR tS m) (hs : StrsAre vs xs) (hb : IsBook w o b) (hh : Hist (i + 1) xs b R S) :
    CutS w h₀ L j cl r d oc i own g dr os .next ⟨h, g, dr, tk, os⟩ := ⟨rfl, h, tk, m, xs, b, R, S, vs, c3, t3, c, o, tR, tS, rfl, F, N, hn, hs, hb, hh⟩
theorem row_ne (h : cl < j ∧ j < r ∧ r < d) {o1 o2 o3 : Obj} {vs : List Value} {c2 c3 : Nat} {jo : Obj} (off : OwnOff own ([(j, jo), (cl, o1), (r, o2), (d, o3)].map (·.1))) (o1' o2' o3' : Obj) : ∀ p ∈ (cl, o1') :: (r, o2') :: (d, o3') :: own, p.1 ≠ j := fun p hp => by
  simp only [List.mem_cons] at hp
  rcases hp with rfl | rfl | rfl | e
  · exact Nat.ne_of_lt h.1
  · exact Nat.ne_of_gt h.2.1
  · exact Nat.ne_of_gt (Nat.lt_trans h.2.1 h.2.2)
  · exact off p e j (.head _)
theorem range_ok {n : Int} (h0 : 0 ≤ n) (h5 : n < 5) : Builtin.Range.small 0 (1 + n) 1 = true ∧ Builtin.Range.rangeSize 0 (1 + n) 1 = (((1 + n).toNat : Nat) : Int) ∧ (1 + n).toNat ≤ 5 := by
  have : n = 0 ∨ n = 1 ∨ n = 2 ∨ n = 3 ∨ n = 4 := by omega
  rcases this with rfl | rfl | rfl | rfl | rfl <;> decide
theorem same_self {b : Bk} (h : (keysB b).Nodup) : Same b b := ⟨rfl, fun p hp => by
  induction b with
  | nil => cases hp
  | cons q r ih =>
    have h' : (keysB (q :: r)) = q.1 :: keysB r := rfl
    rw [h'] at h
    have h2 := List.nodup_cons.mp h
    rw [lookB]
    rcases List.mem_cons.mp hp with e | e
    · rw [if_pos (by rw [e]), e]
    · rw [if_neg (fun z : q.1 = p.1 => h2.1 (z ▸ List.mem_map.mpr ⟨p, e, rfl⟩))]
      exact ih h2.2 e⟩
end
structure LoadOK (xs : List Str) (b : Bk) : Prop where
  load : foldR loadStep [] xs = .ok b
  read : foldR readStep [] xs = .ok b
structure LoadSN (xs : List Str) : Prop where
  load : foldR loadStep [] xs = .sn
  read : foldR readStep [] xs = .sn
structure RowsOK (xs : List Str) (b : Bk) : Prop where
  is : rowsF [] xs = .ok b
structure RowsSN (xs : List Str) : Prop where
  is : rowsF [] xs = .sn
structure RowsUL (xs : List Str) : Prop where
  is : rowsF [] xs = .ul
end Mine

end
section
open PySem PySem.W PyProof.Rows PySem.Calls
set_option Elab.async false
set_option linter.all false
set_option maxRecDepth 100000
namespace Mine
structure RowIsX (n f c : Int) (X : Str) : Prop where
  is : X = rowX n f c
structure RowAll (n f c N : Int) (W X : Str) (va : Value) (Y : Str) (b : Bool) : Prop where
  good : GoodRow n f c
  num : NumIs n N
  told : ToldIs c W
  rx : X = rowTxt N f W ∧ Y = rowTold f W ∧ b = rowNone f ∧ RowLine N f va
section
variable {n f c N : Int} {W X Y : Str} {va : Value} {b : Bool}
theorem told_ne {c : Int} (h : c < 6 ∧ 0 ≤ c) : (toldAt c == eS) = false := by
  have : c = 0 ∨ c = 1 ∨ c = 2 ∨ c = 3 ∨ c = 4 ∨ c = 5 := by omega
  rcases this with rfl | rfl | rfl | rfl | rfl | rfl <;> decide +kernel
theorem told_short {c : Int} (h : c < 6 ∧ 0 ≤ c) : (toldAt c).length ≤ 10 := told_len h.2 h.1
theorem RowAll.four (h : RowAll n f c N W X va Y b) : RowIsX n f c X ∧ GoodRow n f c ∧ NumIs n N ∧ ToldIs c W ∧
    ((f = 0 ∧ (Y == eS) = true ∧ b = false ∧ ∃ t, va = .int N t) ∨ (f = 1 ∧ Y = eS ∧ b = false ∧ va = .none) ∨ (f = 2 ∧ Y = W ∧ b = true ∧ va = .none) ∨
     ((f ≠ 0 ∧ f ≠ 1 ∧ f ≠ 2) ∧ Y = W ∧ b = false ∧ (W == eS) = false ∧ W.length ≤ 10 ∧ ∃ t, va = .int N t)) := by
  obtain ⟨g, ⟨rfl⟩, ⟨rfl⟩, rfl, rfl, rfl, hl⟩ := h
  refine ⟨⟨rfl⟩, g, ⟨rfl⟩, ⟨rfl⟩, ?_⟩
  rcases form_cases g.2.1.2 with rfl | rfl | rfl | ⟨h0, h1, h2⟩
  · exact .inl ⟨rfl, (show (eS == eS) = true by decide +kernel), rfl, hl⟩
  · exact .inr (.inl ⟨rfl, rfl, rfl, hl⟩)
  · exact .inr (.inr (.inl ⟨rfl, rfl, rfl, hl⟩))
  · refine .inr (.inr (.inr ⟨⟨h0, h1, h2⟩, ?_, ?_, told_ne g.2.2, told_short g.2.2, ?_⟩))
    · show (if f = 0 ∨ f = 1 then _ else _) = _
      rw [if_neg (fun q => q.elim h0 h1)]
    · exact decide_eq_false h2
    · unfold RowLine at hl
      rw [if_neg (fun q => q.elim h1 h2)] at hl
      exact hl
theorem put_step {bk : Bk} (nb : NumIs n N) (tb : ToldIs c W) (h0 : f ≠ 0) (h1 : f ≠ 1) (h2 : f ≠ 2) : putB N W bk = stepB bk n f c := by
  obtain ⟨rfl⟩ := nb
  obtain ⟨rfl⟩ := tb
  exact ((exp3 (n := n) (c := c) h0 h1 h2).2.1 bk).symm
theorem keep_R {R : Str} (h0 : f ≠ 0) (h1 : f ≠ 1) (h2 : f ≠ 2) : R = stepR R f := ((exp3 (n := 0) (c := 0) h0 h1 h2).2.2.1 R).symm
theorem keep_S {S : Str} {bk : Bk} (h0 : f ≠ 0) (h1 : f ≠ 1) (h2 : f ≠ 2) : S = stepS S bk n f := ((exp3 (n := n) (c := 0) h0 h1 h2).2.2.2 S bk).symm
theorem del_step {bk : Bk} (nb : NumIs n N) : delB N bk = stepB bk n 0 c := by
  obtain ⟨rfl⟩ := nb
  rfl
theorem hist_go {i : Nat} {xs : List Str} {bk bk' : Bk} {R S R' S' : Str} (h : Hist i xs bk R S) (g : GoodRow n f c) (hX : RowIsX n f c X) (eb : bk' = stepB bk n f c) (eR : R' = stepR R f) (eS' : S' = stepS S bk n f) : Hist (i + 1) (xs ++ [X]) bk' R' S' := by
  obtain ⟨rfl⟩ := hX
  subst eb eR eS'
  exact Hist.step h g
theorem s0_ul {S : Str} {bk : Bk} (nb : NumIs n N) (h1 : (S == eS) = true) (h2 : hasB N bk = false) : ulS = stepS S bk n 0 := by
  obtain ⟨rfl⟩ := nb
  have e : stepS S bk n 0 = if (S == eS) = true ∧ hasB (numAt n) bk = false then ulS else S := rfl
  rw [e]
  rw [if_pos ⟨h1, h2⟩]
theorem s0_a {S : Str} {bk : Bk} (h1 : (S == eS) = false) : S = stepS S bk n 0 := by
  have e : stepS S bk n 0 = if (S == eS) = true ∧ hasB (numAt n) bk = false then ulS else S := rfl
  rw [e]
  rw [if_neg (fun q => by rw [h1] at q; cases q.1)]
theorem s0_b {S : Str} {bk : Bk} (nb : NumIs n N) (h2 : hasB N bk = true) : S = stepS S bk n 0 := by
  obtain ⟨rfl⟩ := nb
  have e : stepS S bk n 0 = if (S == eS) = true ∧ hasB (numAt n) bk = false then ulS else S := rfl
  rw [e]
  rw [if_neg (fun q => by rw [q.2] at h2; cases h2)]
theorem s2_a {S : Str} {bk : Bk} (h : (S != eS) = true) : S = stepS S bk n 2 := by
  have e : stepS S bk n 2 = if (S != eS) = true then S else snS := rfl
  rw [e]
  rw [if_pos h]
theorem s2_b {S : Str} {bk : Bk} (h : (S != eS) = false) : snS = stepS S bk n 2 := by
  have e : stepS S bk n 2 = if (S != eS) = true then S else snS := rfl
  rw [e]
  rw [if_neg (by rw [h]; decide)]
end
def ResOf (xs : List Str) (b : Bk) (R S : Str) : Prop := (R = eS ∧ S = eS ∧ LoadOK xs b ∧ RowsOK xs b) ∨ (R = eS ∧ S = ulS ∧ LoadOK xs b ∧ RowsUL xs) ∨ (R = snS ∧ S = snS ∧ LoadSN xs ∧ RowsSN xs) ∨ (R = snS ∧ S = ulS ∧ LoadSN xs ∧ RowsUL xs)
theorem St.four {xs : List Str} {b : Bk} {R S : Str} (h : St xs b R S) : ResOf xs b R S := by
  rcases h with ⟨rfl, ⟨rfl, hr⟩ | ⟨rfl, hr⟩, h1, h2⟩ | ⟨rfl, ⟨rfl, hr⟩ | ⟨rfl, hr⟩, h1, h2⟩
  · exact .inl ⟨rfl, rfl, ⟨h1, h2⟩, ⟨hr⟩⟩
  · exact .inr (.inl ⟨rfl, rfl, ⟨h1, h2⟩, ⟨hr⟩⟩)
  · exact .inr (.inr (.inl ⟨rfl, rfl, ⟨h1, h2⟩, ⟨hr⟩⟩))
  · exact .inr (.inr (.inr ⟨rfl, rfl, ⟨h1, h2⟩, ⟨hr⟩⟩))
end Mine

end
section
open PySem PySem.W PyProof.Rows PySem.Calls
set_option Elab.async false
set_option linter.all false
set_option maxRecDepth 100000
set_option rowWalk.seconds 0
namespace Mine
section
variable {w : World} {mean : ExcName → Option Value} {mg mb : Str → Option Value} {news : Led}


theorem law_led {h₀ h : Heap} {L : Addr} {a b c d e : Addr × Obj} (N : News h₀ L h [a, b, c, d, e]) : News h₀ L h [d, e, c, b] := fun p hp => N p (by
  simp only [List.mem_cons, List.not_mem_nil, or_false] at hp ⊢
  rcases hp with h | h | h | h
  · exact .inr (.inr (.inr (.inl h)))
  · exact .inr (.inr (.inr (.inr h)))
  · exact .inr (.inr (.inl h))
  · exact .inr (.inl h))
theorem law_off {j cl r d : Addr} (h : @LT.lt Nat _ cl j ∧ @LT.lt Nat _ j r ∧ @LT.lt Nat _ r d) {o1 o2 o3 : Obj} : ∀ p ∈ [(cl, o1), (r, o2), (d, o3)], p.1 ≠ j := fun p hp => by
  simp only [List.mem_cons, List.not_mem_nil, or_false] at hp
  rcases hp with rfl | rfl | rfl
  · exact Nat.ne_of_lt h.1
  · exact Nat.ne_of_gt h.2.1
  · exact Nat.ne_of_gt (Nat.lt_trans h.2.1 h.2.2)

theorem isBook_nil {w : World} {o : Obj} (h1 : o.IsDictOf (intKind PG w) []) (h2 : PyProof.V.FlatPairs PyData.int [] []) : IsBook w o [] := ⟨[], h1, h2⟩
theorem range_okb {n : Int} (h0 : 1 ≤ n) (h5 : n ≤ 5) : Builtin.Range.small 0 n 1 = true ∧ Builtin.Range.rangeSize 0 n 1 = ((n.toNat : Nat) : Int) ∧ n.toNat ≤ 5 := by
  have : n = 1 ∨ n = 2 ∨ n = 3 ∨ n = 4 ∨ n = 5 := by omega
  rcases this with rfl | rfl | rfl | rfl | rfl <;> decide
def RangeS (w : World) (h₀ : Heap) (L : Addr) (g : Array GenState) (dr : Drawn) (os : OsState) (xv : Value) (s₁ : Shared) : Prop :=
  ∃ j cl r d ws ns c2 o ra b h tk m t u v t3 c c3 k tR tS, xv = .ref ra ∧ s₁ = ⟨h, g, dr, tk, os⟩ ∧ IsRange h ra 0 b 1 t u v ∧ (1 ≤ b ∧ b ≤ 5) ∧ Fr h₀ L h m ∧ News h₀ L h [(j, jarObj cl k t3 c), (cl, listOf ws.toArray c2), (r, listOf #[] c3), (d, o)] ∧ k = 1 ∧
    IntsAre ws ns ∧ ns.length ≤ 15 ∧ (@LT.lt Nat _ cl j ∧ @LT.lt Nat _ j r ∧ @LT.lt Nat _ r d) ∧ (d == sysModules) = false ∧ IsBook w o [] ∧ Names j r d eS eS tR tS m
theorem range_cut {w : World} {M : Model} {A : Around} {x : Sem Value} {Q : Value → Shared → Prop} {E : Value → Shared → Prop} {s : Shared} {h₀ : Heap} {L : Addr} {m0 : Str → Option Value} (F0 : Fr h₀ L s.heap m0) (X0 : (pre.heap_1 w.params).In h₀)
    (h1 : wpAny M A x (RangeS w h₀ L s.gens s.drawn s.os) E s)
    (h2 : ∀ (j cl r d : Addr) (ws : List Value) (ns : List Int) (c2 : Nat) (o : Obj) (ra : Addr) (b : Int) (h : Heap) (tk : Nat) (m : Str → Option Value) (t u v t3 : Tok) (c c3 : Nat) (tR tS : Tok), IsRange h ra 0 b 1 t u v → 1 ≤ b → b ≤ 5 → Fr h₀ L h m → News h₀ L h [(j, jarObj cl 1 t3 c), (cl, listOf ws.toArray c2), (r, listOf #[] c3), (d, o)] →
      IntsAre ws ns → ns.length ≤ 15 → (@LT.lt Nat _ cl j ∧ @LT.lt Nat _ j r ∧ @LT.lt Nat _ r d) → (d == sysModules) = false → IsBook w o [] → Names j r d eS eS tR tS m → Q (.ref ra) ⟨h, s.gens, s.drawn, tk, s.os⟩) :
    wpAny M A x Q E s :=
  wpAny_mono h1 (fun xv s₁ q => by
    obtain ⟨j, cl, r, d, ws, ns, c2, o, ra, b, h, tk, m, t, u, v, t3, c, c3, k, tR, tS, rfl, rfl, hR, ⟨b1, b5⟩, F, N, rfl, hi, hn, ho, lo, hb, hm⟩ := q
    exact h2 j cl r d ws ns c2 o ra b h tk m t u v t3 c c3 tR tS hR b1 b5 F N hi hn ho lo hb hm) fun _ _ e => e

theorem row_ne2 {j cl r d : Addr} {own : Led} (h : @LT.lt Nat _ cl j ∧ @LT.lt Nat _ j r ∧ @LT.lt Nat _ r d) (off : ∀ p ∈ own, p.1 ≠ j) {o1 o2 o3 : Obj} : ∀ p ∈ (cl, o1) :: (r, o2) :: (d, o3) :: own, p.1 ≠ j := fun p hp => by
  simp only [List.mem_cons] at hp
  rcases hp with rfl | rfl | rfl | e
  · exact Nat.ne_of_lt h.1
  · exact Nat.ne_of_gt h.2.1
  · exact Nat.ne_of_gt (Nat.lt_trans h.2.1 h.2.2)
  · exact off p e
local macro_rules | `(tactic| k_upd) => `(tactic| exact Upd.tail (by k_ne) (Upd.tail (by k_ne) (Upd.tail (by k_ne) (Upd.head (List.forall_mem_cons.mpr ⟨by k_ne, by with_reducible assumption⟩)))))
local macro_rules | `(tactic| k_updF) => `(tactic| exact UpdF.tail (by k_ne) (UpdF.tail (by k_ne) (UpdF.tail (by k_ne) (UpdF.head (by with_reducible assumption)))))

set_option maxHeartbeats 8000000 in
theorem walk : WalkT := use_def (by rfl) (by
  k_go0
  show wpAny _ _ _ _ _ _
  k_fold
  k_with_none
  k_with "execs cons" => ((try k_fold); refine wpAny_execs_cons ?_; refine (let sk := _; (?_ : wpAny _ _ _ _ _ sk)))
  k_with "eval Call" => (k_here; (with_reducible show wpAny _ _ (eval (Expr.Call (Expr.Name _ _) _ [] _) _) _ _ _); k_dflt (refine Call_ ?_))
  k_with "exec Raise some none" => (k_here; (refine' raise_B ?_ ?R250.hh); (case hh => k_dflt rfl))
  k_with "call ref" => (k_here; (try refine (?_ : wpAny _ (PySem.Around.deeper _ _) _ _ _ _)); (with_reducible show wpAny _ _ (PySem.call (Value.ref 34) _ _) _ _ _); refine' c_basic ?R251.b1 ?R251.b2 ?R251.b3 ?R251.b4 ?R251.b5 ?R251.b6 ?R251.b7 ?R251.b8 ?R251.b9 ?_; (case b1 => k_asm); (case b2 => k_asm); (case b3 => k_asm); (case b4 => k_asm); (case b5 => k_asm); (case b6 => rfl); (case b7 => rfl); (case b8 => first | rfl | assumption); (case b9 => ktr_room); intro e' dx' oD' ta' h' tk' F' N' d1' d2' d3')
  k_with "RaiseB" => (refine' ⟨_, _, _, rfl, ?R252.r1, ?R252.r2, ?_⟩; (case r1 => exact (News.get (by assumption) (.head _))); (case r2 => exact (Frag.In.keeps (by assumption) (Fr.keep (by assumption))) _ _ (by k_dflt k_is)))
  k_with "leaving ref" => (k_here; first
  | (refine' leave_newB ?R253.k1 ?R253.k2 ?R253.k3 ?R253.k4 ?R253.k5 ?R253.k6 ?_; (case k1 => assumption); (case k2 => assumption); (case k3 => assumption); (case k4 => assumption); (case k5 => assumption); (case k6 => assumption); k_whole; intro h' R' U'; (try dsimp only at R' U' ⊢))
  | (refine' leave_onB ?R253.k1 ?R253.k2 ?R253.k3 ?R253.k4 ?_; (case k3 => assumption); (case k1 => assumption); (case k4 => assumption); (case k2 => assumption); k_whole; intro h' R' U'; (try dsimp only at R' U' ⊢)))
  k_with "call ref" => (k_here; (try refine (?_ : wpAny _ (PySem.Around.deeper _ _) _ _ _ _)); (with_reducible show wpAny _ _ (PySem.call (Value.ref 302) _ _) _ _ _); (try k_fold); k_dflt (refine' Ctr.use0 (c_taken _ _ _ _ _ _ _ _ _ _ ?R254.p1 ?R254.p2 ?R254.p3 ?R254.p4 ?R254.p5 ?R254.p6) ?R254.k1 ?R254.k2 ?R254.k3 ?R254.k4 ?R254.k5 ?R254.k6 ?R254.k7 ?R254.k8 ?_; (case k1 => k_asm); (case k2 => k_asm); (case k3 => k_asm); (case k5 => k_asm); (case k4 => first | k_asm | exact law_led (by with_reducible assumption) | exact News.rot (by with_reducible assumption) | exact News.rot2 (by with_reducible assumption)); (case k6 => first | rfl | assumption); (case k7 => ktr_room); (case k8 => ktr_units); (case p1 => decide); (case p2 => with_reducible assumption); (case p3 => omega); (case p4 => omega); (case p5 => omega); (case p6 => first | exact law_off (by omega) | with_reducible assumption | exact jar_ne (by with_reducible assumption) (by with_reducible assumption) | exact jar_ne2 (by with_reducible assumption) (by with_reducible assumption) (by with_reducible assumption) (by with_reducible assumption)); intro v' nw' h' tk' F' N' q'; obtain ⟨n', t', t3', c', q1, ge', lt', q2⟩ := q'; subst q1 q2; (try (have ff' := form_facts ge' lt')); (try dsimp only)))
  k_with "call ref" => (k_here; (try refine (?_ : wpAny _ (PySem.Around.deeper _ _) _ _ _ _)); (with_reducible show wpAny _ _ (PySem.call (Value.ref 309) _ _) _ _ _); (try k_fold); k_dflt (refine' Ctr.use0 (c_row _ _ _ _ _ _ _ _ ?R255.p1 ?R255.p2 ?R255.p3 ?R255.p4 ?R255.p5) ?R255.k1 ?R255.k2 ?R255.k3 ?R255.k4 ?R255.k5 ?R255.k6 ?R255.k7 ?R255.k8 ?_; tb_start; (case p1 => with_reducible assumption); (case p2 => omega); (case p3 => omega); (case p4 => omega); (case p5 => exact row_ne2 (by assumption) (by with_reducible assumption)); intro v' nw' h' tk' F' N' q'; obtain ⟨n, f, c, N, W, D, X, va, Y, b, t1, t2, t3, c3, n5, f8, c6, nb, tb, q1, q2, rx, l1, l2, l3⟩ := q'; subst q1 q2; (have ra := RowAll.mk ⟨n5, f8, c6⟩ nb tb rx); clear rx nb tb n5 f8 c6; (try k_lt l3); (try dsimp only)))
  k_with "call builtin:list.append" => (k_here; k_dflt (refine' append_K ?R256.k1 ?R256.k2 ?R256.k3 ?_ ?R256.z; (case k1 => k_asm); (case k2 => k_asm); (case k3 => exact Upd.tail (by k_ne) (Upd.tail (by k_ne) (Upd.tail (by k_ne) (Upd.tail (by k_ne) (Upd.head (List.forall_mem_cons.mpr ⟨by k_ne, by with_reducible assumption⟩)))))); (case z => (rw [List.size_toArray, sizeLine_eq]; omega)); k_whole); intro h' F' N')
  k_with "setItem ref int" => (k_here; refine' bk_set ?R257.B ?R257.F ?R257.N ?R257.U ?R257.z ?_; (case F => k_asm); (case N => k_asm); (case U => k_updF); (case B => with_reducible assumption); (case z => omega); intro h' o' F' N' B')
  k_with "getMethod ref" => (k_here; (with_reducible show wpAny _ _ (getMethod (Value.ref _) (PySem.Str.ofString "pop") _) _ _ _); k_dflt (refine' getMethod_tab_any (knd := intKind _ _) (enc := PyData.int) ?R258.k1 ?R258.k2 ?_; (case k1 => exact rfl); (case k2 => exact IsBook.tab (by with_reducible assumption) (News.get (by k_asm) (by k_mem)) (by with_reducible assumption)); k_whole))
  k_with "call builtin:dict.pop" => (k_here; (with_reducible show wpAny _ _ (PySem.call (Value.builtin "dict.pop") [Value.ref _, Value.int _ _, Value.none]) _ _ _); refine' bk_popN ?R259.B ?R259.F ?R259.N ?R259.U ?R259.z ?R259.D ?R259.l ?_; (case F => k_asm); (case N => k_asm); (case U => k_updF); (case B => with_reducible assumption); (case z => omega); (case D => exact News.get (by k_asm) (by k_mem)); (case l => with_reducible assumption); intro h' o' v' tk' F' N' B')
  k_with "call ref" => (k_here; (try refine (?_ : wpAny _ (PySem.Around.deeper _ _) _ _ _ _)); (with_reducible show wpAny _ _ (PySem.call (Value.ref 316) [Value.ref 56, Value.str _ _] _) _ _ _); (try k_fold); (rename TailFacts _ _ => tf); (rename LoadOK _ _ => lk); k_dflt (refine' c_heard (.inl rfl) (c_loaded_program _ _ ?R260.p1) ?R260.pe _ _ _ _ _ _ _ _ _ _ _ _ _ _ _ ?R260.k1 ?R260.k2 ?R260.k3 ?R260.k4 ?R260.k5 ?R260.k6 ?R260.k7 ?R260.k8 ?_; (case k1 => k_asm); (case k2 => k_asm); (case k3 => k_asm); (case k4 => k_asm); (case k5 => k_asm); (case k6 => first | rfl | assumption); (case k7 => ktr_room); (case k8 => ktr_units); (case p1 => exact Nat.le_trans tf.len1 (by decide)); (case pe => (intro v q; obtain ⟨_, t, e⟩ := q; subst e; rfl)); intro v' nw' h' tk' F' N' q'; (rcases q' with ⟨D, o, b, e1, q1, bB, q2, lt'⟩ | ⟨⟨e1, t, q1⟩, q2⟩); (all_goals first | ((replace e1 := e1.symm.trans (tf.load.trans lk.load)); cases e1; subst q1 q2; (try k_lt lt'); (try dsimp only)) | (exfalso; (replace e1 := e1.symm.trans (tf.load.trans lk.load)); cases e1))))
  k_with "call ref" => (k_here; (try refine (?_ : wpAny _ (PySem.Around.deeper _ _) _ _ _ _)); (with_reducible show wpAny _ _ (PySem.call (Value.ref 316) [Value.ref 56, Value.str _ _] _) _ _ _); (try k_fold); (rename TailFacts _ _ => tf); (rename LoadSN _ => lk); k_dflt (refine' c_heard (.inl rfl) (c_loaded_program _ _ ?R261.p1) ?R261.pe _ _ _ _ _ _ _ _ _ _ _ _ _ _ _ ?R261.k1 ?R261.k2 ?R261.k3 ?R261.k4 ?R261.k5 ?R261.k6 ?R261.k7 ?R261.k8 ?_; (case k1 => k_asm); (case k2 => k_asm); (case k3 => k_asm); (case k4 => k_asm); (case k5 => k_asm); (case k6 => first | rfl | assumption); (case k7 => ktr_room); (case k8 => ktr_units); (case p1 => exact Nat.le_trans tf.len1 (by decide)); (case pe => (intro v q; obtain ⟨_, t, e⟩ := q; subst e; rfl)); intro v' nw' h' tk' F' N' q'; (rcases q' with ⟨D, o, b, e1, q1, bB, q2, lt'⟩ | ⟨⟨e1, t, q1⟩, q2⟩); (all_goals first | ((have e2 : PR.sn = PR.sn := e1.symm.trans (tf.load.trans lk.load)); clear e1 e2; subst q1 q2; (try dsimp only)) | (exfalso; (replace e1 := e1.symm.trans (tf.load.trans lk.load)); cases e1))))
  k_with "call ref" => (k_here; (try refine (?_ : wpAny _ (PySem.Around.deeper _ _) _ _ _ _)); (with_reducible show wpAny _ _ (PySem.call (Value.ref 316) [Value.ref 295, Value.str _ _] _) _ _ _); (try k_fold); (rename TailFacts _ _ => tf); (rename LoadOK _ _ => lk); k_dflt (refine' c_heard (.inr (.inl rfl)) (c_read_listing canW _ _ ?R262.p1 ?R262.p2) ?R262.pe _ _ _ _ _ _ _ _ _ _ _ _ _ _ _ ?R262.k1 ?R262.k2 ?R262.k3 ?R262.k4 ?R262.k5 ?R262.k6 ?R262.k7 ?R262.k8 ?_; (case k1 => k_asm); (case k2 => k_asm); (case k3 => k_asm); (case k4 => k_asm); (case k5 => k_asm); (case k6 => first | rfl | assumption); (case k7 => ktr_room); (case k8 => ktr_units); (case p1 => exact tf.len2); (case p2 => exact tf.readOK); (case pe => (intro v q; obtain ⟨_, t, e⟩ := q; subst e; rfl)); intro v' nw' h' tk' F' N' q'; (rcases q' with ⟨D, o, b, e1, q1, bB, q2, lt'⟩ | ⟨⟨e1, t, q1⟩, q2⟩); (all_goals first | ((replace e1 := e1.symm.trans (tf.read.trans lk.read)); cases e1; subst q1 q2; (try k_lt lt'); (try dsimp only)) | (exfalso; (replace e1 := e1.symm.trans (tf.read.trans lk.read)); cases e1))))
  k_with "call ref" => (k_here; (try refine (?_ : wpAny _ (PySem.Around.deeper _ _) _ _ _ _)); (with_reducible show wpAny _ _ (PySem.call (Value.ref 316) [Value.ref 295, Value.str _ _] _) _ _ _); (try k_fold); (rename TailFacts _ _ => tf); (rename LoadSN _ => lk); k_dflt (refine' c_heard (.inr (.inl rfl)) (c_read_listing canW _ _ ?R263.p1 ?R263.p2) ?R263.pe _ _ _ _ _ _ _ _ _ _ _ _ _ _ _ ?R263.k1 ?R263.k2 ?R263.k3 ?R263.k4 ?R263.k5 ?R263.k6 ?R263.k7 ?R263.k8 ?_; (case k1 => k_asm); (case k2 => k_asm); (case k3 => k_asm); (case k4 => k_asm); (case k5 => k_asm); (case k6 => first | rfl | assumption); (case k7 => ktr_room); (case k8 => ktr_units); (case p1 => exact tf.len2); (case p2 => exact tf.readOK); (case pe => (intro v q; obtain ⟨_, t, e⟩ := q; subst e; rfl)); intro v' nw' h' tk' F' N' q'; (rcases q' with ⟨D, o, b, e1, q1, bB, q2, lt'⟩ | ⟨⟨e1, t, q1⟩, q2⟩); (all_goals first | ((have e2 : PR.sn = PR.sn := e1.symm.trans (tf.read.trans lk.read)); clear e1 e2; subst q1 q2; (try dsimp only)) | (exfalso; (replace e1 := e1.symm.trans (tf.read.trans lk.read)); cases e1))))
  k_with "call ref" => (k_here; (try refine (?_ : wpAny _ (PySem.Around.deeper _ _) _ _ _ _)); (with_reducible show wpAny _ _ (PySem.call (Value.ref 316) [Value.ref 115, Value.ref _] _) _ _ _); (try k_fold); (rename TailFacts _ _ => tf); (rename RowsOK _ _ => lk); k_dflt (refine' c_heard (.inr (.inr rfl)) (c_program_of_rows _ _ _ _ ?R264.p1 ?R264.p2 ?R264.p3 ?R264.p4) ?R264.pe _ _ _ _ _ _ _ _ _ _ _ _ _ _ _ ?R264.k1 ?R264.k2 ?R264.k3 ?R264.k4 ?R264.k5 ?R264.k6 ?R264.k7 ?R264.k8 ?_; (case k1 => k_asm); (case k2 => k_asm); (case k3 => k_asm); (case k4 => k_asm); (case k5 => k_asm); (case k6 => first | rfl | assumption); (case k7 => ktr_room); (case k8 => ktr_units); (case p4 => k_mem); (case p1 => with_reducible assumption); (case p2 => exact tf.few); (case p3 => exact tf.each); (case pe => (intro v q; rcases q with ⟨_, t, e⟩ | ⟨_, t, e⟩ <;> subst e <;> rfl)); intro v' nw' h' tk' F' N' q'; (rcases q' with ⟨D, o, b, e1, q1, bB, q2, lt'⟩ | ⟨⟨e1, t, q1⟩ | ⟨e1, t, q1⟩, q2⟩); (all_goals first | ((replace e1 := e1.symm.trans (lk.is)); cases e1; subst q1 q2; (try k_lt lt'); (try dsimp only)) | (exfalso; (replace e1 := e1.symm.trans (lk.is)); cases e1))))
  k_with "call ref" => (k_here; (try refine (?_ : wpAny _ (PySem.Around.deeper _ _) _ _ _ _)); (with_reducible show wpAny _ _ (PySem.call (Value.ref 316) [Value.ref 115, Value.ref _] _) _ _ _); (try k_fold); (rename TailFacts _ _ => tf); (rename RowsSN _ => lk); k_dflt (refine' c_heard (.inr (.inr rfl)) (c_program_of_rows _ _ _ _ ?R265.p1 ?R265.p2 ?R265.p3 ?R265.p4) ?R265.pe _ _ _ _ _ _ _ _ _ _ _ _ _ _ _ ?R265.k1 ?R265.k2 ?R265.k3 ?R265.k4 ?R265.k5 ?R265.k6 ?R265.k7 ?R265.k8 ?_; (case k1 => k_asm); (case k2 => k_asm); (case k3 => k_asm); (case k4 => k_asm); (case k5 => k_asm); (case k6 => first | rfl | assumption); (case k7 => ktr_room); (case k8 => ktr_units); (case p4 => k_mem); (case p1 => with_reducible assumption); (case p2 => exact tf.few); (case p3 => exact tf.each); (case pe => (intro v q; rcases q with ⟨_, t, e⟩ | ⟨_, t, e⟩ <;> subst e <;> rfl)); intro v' nw' h' tk' F' N' q'; (rcases q' with ⟨D, o, b, e1, q1, bB, q2, lt'⟩ | ⟨⟨e1, t, q1⟩ | ⟨e1, t, q1⟩, q2⟩); (all_goals first | ((have e2 : PR.sn = PR.sn := e1.symm.trans (lk.is)); clear e1 e2; subst q1 q2; (try dsimp only)) | (exfalso; (replace e1 := e1.symm.trans (lk.is)); cases e1))))
  k_with "call ref" => (k_here; (try refine (?_ : wpAny _ (PySem.Around.deeper _ _) _ _ _ _)); (with_reducible show wpAny _ _ (PySem.call (Value.ref 316) [Value.ref 115, Value.ref _] _) _ _ _); (try k_fold); (rename TailFacts _ _ => tf); (rename RowsUL _ => lk); k_dflt (refine' c_heard (.inr (.inr rfl)) (c_program_of_rows _ _ _ _ ?R266.p1 ?R266.p2 ?R266.p3 ?R266.p4) ?R266.pe _ _ _ _ _ _ _ _ _ _ _ _ _ _ _ ?R266.k1 ?R266.k2 ?R266.k3 ?R266.k4 ?R266.k5 ?R266.k6 ?R266.k7 ?R266.k8 ?_; (case k1 => k_asm); (case k2 => k_asm); (case k3 => k_asm); (case k4 => k_asm); (case k5 => k_asm); (case k6 => first | rfl | assumption); (case k7 => ktr_room); (case k8 => ktr_units); (case p4 => k_mem); (case p1 => with_reducible assumption); (case p2 => exact tf.few); (case p3 => exact tf.each); (case pe => (intro v q; rcases q with ⟨_, t, e⟩ | ⟨_, t, e⟩ <;> subst e <;> rfl)); intro v' nw' h' tk' F' N' q'; (rcases q' with ⟨D, o, b, e1, q1, bB, q2, lt'⟩ | ⟨⟨e1, t, q1⟩ | ⟨e1, t, q1⟩, q2⟩); (all_goals first | ((have e2 : PR.ul = PR.ul := e1.symm.trans (lk.is)); clear e1 e2; subst q1 q2; (try dsimp only)) | (exfalso; (replace e1 := e1.symm.trans (lk.is)); cases e1))))
  k_with "call builtin:str.join" => (k_here; (rename TailFacts _ _ => tf); k_dflt (refine' join_listW ?R267.hl ?R267.hi ?R267.hs ?R267.hw ?_; (case hl => exact News.isList (by k_asm) (by k_mem)); (case hi => with_reducible assumption); (case hs => decide); (case hw => exact tf.weight)); intro t' k')
  k_with "compareOp NotEq ref ref" => (k_here; k_dflt (refine' bk_ne ?R268.B ?R268.D ?R268.l ?R268.B2 ?R268.D2 ?R268.l2 ?R268.hl ?R268.hs ?R268.hu ?_; (case D => exact News.get (by k_asm) (by k_mem)); (case B => with_reducible assumption); (case l => exact lo_of (by omega)); (case D2 => exact News.get (by k_asm) (by k_mem)); (case B2 => with_reducible assumption); (case l2 => with_reducible assumption); (case hl => exact And.left (show Same _ _ by with_reducible assumption)); (case hs => exact And.right (show Same _ _ by with_reducible assumption)); (case hu => ktr_units)))
  k_with "call ref" => (k_here; (try refine (?_ : wpAny _ (PySem.Around.deeper _ _) _ _ _ _)); (with_reducible show wpAny _ _ (PySem.call (Value.ref 321) _ _) _ _ _); (try k_fold); (rename TailFacts _ _ => tf); k_dflt (refine' Ctr.use0 (c_kept canW _ _ _ ?R269.p1 ?R269.p2 ?R269.p3 tf.kept) ?R269.k1 ?R269.k2 ?R269.k3 ?R269.k4 ?R269.k5 ?R269.k6 ?R269.k7 ?R269.k8 ?_; tb_start; (case p1 => k_mem); (case p2 => with_reducible assumption); (case p3 => with_reducible assumption); intro v' nw' h' tk' F' N' q'; obtain ⟨q1, q2⟩ := q'; subst q1 q2; (try dsimp only)))
  k_with "ite" => (k_here; first | (refine' iteBF ?R270.h ?_; (case h => with_reducible assumption)) | (refine' iteBT ?R270.h ?_; (case h => with_reducible assumption)) | (refine' iteT ?R270.h ?_; (case h => decide +kernel)) | (refine' iteF ?R270.h ?_; (case h => decide +kernel)))
  k_with "compareOp NotIn int ref" => (k_here; refine' bk_notin ?R271.B ?R271.D ?R271.l ?_; (case D => exact News.get (by k_asm) (by k_mem)); (case B => with_reducible assumption); (case l => with_reducible assumption))
  repeat' ((fail_if_success (with_reducible show wpAny _ _ (exec (Stmt.For _ _ _ _ _) _) _ _ _)); (first | (k_unfold; (try dsimp only)) | (k_end; wrow_close) | walk1 | (dsimp only; walk1) | (leave1; try dsimp only) | fail "no step"))
  (rename Fr _ _ _ _ => lF')
  (with_unfolding_all refine' For_invVF lF' ?k1 ?k2 ?_; (case k1 => exact rfl); (case k2 => exact rfl); k_whole)
  refine' range_cut ?fr0 ?x0 ?_ ?_
  case fr0 => k_asm
  case x0 => assumption
  · k_steps
    exact ⟨_, _, _, _, _, _, _, _, _, _, _, _, _, _, _, _, _, _, _, _, _, _, rfl, rfl, by assumption, ⟨by omega, by omega⟩, by k_asm, by k_asm, by decide, by with_reducible assumption, by omega, ⟨by omega, by omega, by omega⟩, by with_reducible assumption, isBook_nil (by with_reducible assumption) (by with_reducible assumption), ⟨by k_dflt rfl, by k_dflt rfl, by k_dflt rfl, by k_dflt rfl, by k_dflt rfl⟩⟩
  intro j cl r d ws ns c2 o ra b h1 tk1 m t u v t3 c c3 tR tS hR b1 b5 FL NL hi hn ho lo hb hm
  have ro := range_okb b1 b5
  refine range_iterG (LawJ _ j cl r d (listOf ws.toArray c2)) rfl hR ro.1 ro.2.1 FL NL ⟨[], [], eS, eS, [], c3, t3, c, o, tR, tS, hm, rfl, .nil, hb, .nil⟩ ?_ ?_
  · intro i k t m₁ news₁ h tk own hlt hoff hJ F₁ N₁
    obtain ⟨xs, bk, R, S, vs, c3', t3', c', o', tR', tS', hm', rfl, hs', hb', hh'⟩ := hJ
    have i5 : i < 5 := by omega
    have F2 := hm'.fr1 F₁
    have off_j : ∀ p ∈ own, p.1 ≠ j := fun p hp => hoff p hp j (by simp)
    have off_r : ∀ p ∈ own, p.1 ≠ r := fun p hp => hoff p hp r (by simp)
    have off_d : ∀ p ∈ own, p.1 ≠ d := fun p hp => hoff p hp d (by simp)
    have vl : vs.length ≤ 5 := by rw [strs_len hs', (hist_inv hh').len]; omega
    have bl : bk.length ≤ 5 := Nat.le_trans (hist_inv hh').few (by omega)
    simp only [List.cons_append, List.nil_append] at N₁
    clear F₁ hm' hR FL NL hm hb ro
    repeat' ((fail_if_success (with_reducible show wpAny _ _ (exec (Stmt.If _ _ _ _) _) _ _ _)); (first | (k_unfold; (try dsimp only)) | (k_end; wrow_close) | walk1 | (dsimp only; walk1) | (leave1; try dsimp only) | fail "no step"))
    (rename RowAll _ _ _ _ _ _ _ _ _ => ra)
    (rename News _ _ _ (_ :: _ :: _ :: _ :: _ :: own) => N9)
    replace N9 := News.cut1 N9
    simp only [List.push_toArray] at N9
    obtain ⟨hX, gd, nb, tb, hcase⟩ := ra.four
    clear ra
    try dsimp only
    refine' cut_go (i := i) (own := own) (oc := listOf ws.toArray c2) (j := j) (cl := cl) (r := r) (d := d) ?fr0 hb' ?_ ?_
    case fr0 => k_asm
    · rcases hcase with ⟨rfl, ye, rfl, tv, rfl⟩ | ⟨rfl, rfl, rfl, rfl⟩ | ⟨rfl, rfl, rfl, rfl⟩ | ⟨⟨f0, f1, f2⟩, rfl, rfl, wne, wl, tv, rfl⟩
      · k_steps
        all_goals (try dsimp only)
        all_goals (refine' cut_in (vs := vs ++ [.str _ _]) ?cF ?cN ?cn ?cs ?cb ?ch; (case cF => k_asm); (case cN => k_asm); (case cs => exact kct_snoc hs'); (case cn => exact ⟨by k_dflt rfl, by k_dflt rfl, by k_dflt rfl, by k_dflt rfl, by k_dflt rfl⟩); (case cb => with_reducible assumption); (case ch => exact hist_go hh' gd hX (del_step nb) rfl (by first | exact s0_ul nb (by with_reducible assumption) (by with_reducible assumption) | exact s0_a (by with_reducible assumption) | exact s0_b nb (by with_reducible assumption))))
      · k_steps
        all_goals (try dsimp only)
        all_goals (refine' cut_in (vs := vs ++ [.str _ _]) ?cF ?cN ?cn ?cs ?cb ?ch; (case cF => k_asm); (case cN => k_asm); (case cs => exact kct_snoc hs'); (case cn => exact ⟨by k_dflt rfl, by k_dflt rfl, by k_dflt rfl, by k_dflt rfl, by k_dflt rfl⟩); (case cb => exact hb'); (case ch => exact hist_go hh' gd hX rfl rfl rfl))
      · k_steps
        all_goals (try dsimp only)
        all_goals (refine' cut_in (vs := vs ++ [.str _ _]) ?cF ?cN ?cn ?cs ?cb ?ch; (case cF => k_asm); (case cN => k_asm); (case cs => exact kct_snoc hs'); (case cn => exact ⟨by k_dflt rfl, by k_dflt rfl, by k_dflt rfl, by k_dflt rfl, by k_dflt rfl⟩); (case cb => exact hb'); (case ch => exact hist_go hh' gd hX rfl rfl (by first | exact s2_a (by with_reducible assumption) | exact s2_b (by with_reducible assumption))))
      · k_steps
        all_goals (try dsimp only)
        all_goals (refine' cut_in (vs := vs ++ [.str _ _]) ?cF ?cN ?cn ?cs ?cb ?ch; (case cF => k_asm); (case cN => k_asm); (case cs => exact kct_snoc hs'); (case cn => exact ⟨by k_dflt rfl, by k_dflt rfl, by k_dflt rfl, by k_dflt rfl, by k_dflt rfl⟩); (case cb => with_reducible assumption); (case ch => exact hist_go hh' gd hX (put_step nb tb f0 f1 f2) (keep_R f0 f1 f2) (keep_S f0 f1 f2)))
    · intro h9 tk9 m9 xs9 bk9 R9 S9 vs9 c39 t39 c9 o9 tR9 tS9 F9 N9 hs9 hb9 hh9
      have inv := hist_inv hh9
      have tf := tail_facts inv (by omega)
      have ss := same_self inv.nd
      have tl1 := tf.len1
      have res := (hist_st hh9).four
      have ek : (3 * (i : Int) + 1 + 1 + 1 + 1) = 3 * ((i + 1 : Nat) : Int) + 1 := by omega
      rw [ek] at N9
      clear hb' hs' hh' hcase nb tb gd hX inv ek vl bl
      rcases res with ⟨rfl, rfl, lk, rk⟩ | ⟨rfl, rfl, lk, rk⟩ | ⟨rfl, rfl, lk, rk⟩ | ⟨rfl, rfl, lk, rk⟩
      all_goals k_steps
      all_goals (try dsimp only)
      all_goals first
        | exact absurd (show (snS != snS) = true by with_reducible assumption) (by decide +kernel)
        | exact absurd (show (ulS != ulS) = true by with_reducible assumption) (by decide +kernel)
        | exact InvEndG.intro (nx := [(j, jarObj cl (3 * ((i + 1 : Nat) : Int) + 1) t39 c9), (cl, listOf ws.toArray c2), (r, listOf vs9.toArray c39), (d, o9)]) (by k_asm) (by k_asm) ⟨xs9, bk9, _, _, vs9, c39, t39, c9, o9, _, _, ⟨by k_dflt rfl, by k_dflt rfl, by k_dflt rfl, by k_dflt rfl, by k_dflt rfl⟩, rfl, hs9, hb9, hh9⟩ hoff (fun p hp => by repeat (first | exact List.mem_append_left own hp | refine List.Mem.tail _ ?_)) (fun p hp => by repeat (first | exact hp | refine List.Mem.tail _ ?_))
        | skip
  · intro m₁ news₁ h tk hJ F₁ N₁
    k_steps)
end
end Mine

end
namespace Mine
open PySem PySem.W PyProof.Rows
-- the head lays a quick twin beside each constant that it makes; a twin is not needed and is great: where its name stands already, none is laid
theorem top.tw17371467147965452787 : True := trivial
theorem top.tw11787821470092881102 : True := trivial
theorem top.tw11539556534233449701 : True := trivial
theorem top.tw4610349131183792086 : True := trivial
theorem top.tw6877097307689546105 : True := trivial
theorem top.tw9437893007894698314 : True := trivial
theorem top.tw674166890782747817 : True := trivial
theorem top.tw3134486288810930288 : True := trivial
theorem top.tw11119754033212370968 : True := trivial
theorem top.tw7830913209206220567 : True := trivial
theorem top.tw2515998901278374640 : True := trivial
theorem top.tw12385144161495827662 : True := trivial
theorem top.tw4213018616267185653 : True := trivial
theorem top.tw11028086866134049853 : True := trivial
theorem top.tw6358059673133339394 : True := trivial
theorem top.tw9068506458530023791 : True := trivial
theorem top.tw13120753694373217308 : True := trivial
theorem top.tw10773188271377071773 : True := trivial
theorem top.tw12012865196380796599 : True := trivial
theorem top.tw5303079699428457377 : True := trivial
theorem top.tw10936122117785486979 : True := trivial
theorem top.tw9059672392935016618 : True := trivial
theorem top.tw14459580976405569124 : True := trivial
theorem top.tw12483720753089274532 : True := trivial
theorem top.tw13091174067606910046 : True := trivial
theorem top.tw3186775038225222150 : True := trivial
theorem top.tw4047667213573674445 : True := trivial
theorem top.tw6898770573198911631 : True := trivial
theorem top.tw7458633546980236471 : True := trivial
theorem top.tw6749217079512962374 : True := trivial
theorem top.tw1212798325632107971 : True := trivial
theorem top.tw864819663365544661 : True := trivial
theorem top.tw12318557346453588183 : True := trivial
theorem top.tw1617357707322924660 : True := trivial
theorem top.tw2369445192022557226 : True := trivial
theorem top.tw3474246075231452896 : True := trivial
theorem top.tw18034075008235765660 : True := trivial
theorem top.tw10617020205504526918 : True := trivial
theorem top.tw728428047077509346 : True := trivial
theorem top.tw17469865338272021226 : True := trivial
theorem top.tw1492452104121835379 : True := trivial
theorem top.tw705360758644809490 : True := trivial
theorem top.tw1676862907878916244 : True := trivial
theorem top.tw13160728816969591200 : True := trivial
theorem top.tw8435561252592420358 : True := trivial
theorem top.tw9503340733035011235 : True := trivial
theorem top.tw339143206060000330 : True := trivial
theorem top.tw8892184565913893157 : True := trivial
theorem top.tw18008055252877512497 : True := trivial
theorem top.tw7990429038631628895 : True := trivial
theorem top.tw9382581127745807760 : True := trivial
theorem top.tw13303987763403120937 : True := trivial
theorem top.tw8810280945414196856 : True := trivial
theorem top.tw11922380849998532372 : True := trivial
theorem top.tw81815255157605957 : True := trivial
theorem top.tw2443449257678562572 : True := trivial
theorem top.tw7198060816514059695 : True := trivial
theorem top.tw13177472732611162249 : True := trivial
theorem top.tw6505410396798821541 : True := trivial
theorem top.tw5523086135645875356 : True := trivial
theorem top.tw14611434983143301774 : True := trivial
theorem top.tw13264354339760550358 : True := trivial
theorem top.tw14371913498598963198 : True := trivial
theorem top.tw14861896470697024400 : True := trivial
theorem top.tw987869383939708018 : True := trivial
theorem top.tw3422688185749166683 : True := trivial
theorem top.tw8694864300669457046 : True := trivial
theorem top.tw9759319705405543751 : True := trivial
theorem top.tw2988451766255067171 : True := trivial
theorem top.tw5476889619067714990 : True := trivial
theorem top.tw9305691244287143441 : True := trivial
theorem top.tw5868845118606482295 : True := trivial
theorem top.tw15860264024139754761 : True := trivial
theorem top.tw8265191368974092141 : True := trivial
theorem top.tw5244899138074338376 : True := trivial
theorem top.tw14597223018079223185 : True := trivial
theorem top.tw8598144960395782539 : True := trivial
theorem top.tw6473336682457920079 : True := trivial
theorem top.tw14142502885225118848 : True := trivial
theorem top.tw908825868028484722 : True := trivial
theorem top.tw2057334267981633021 : True := trivial
theorem top.tw12535971307161669396 : True := trivial
theorem top.tw10448899703829047738 : True := trivial
theorem top.tw4299629679881509495 : True := trivial
theorem top.tw956942650209027819 : True := trivial
theorem top.tw15092371282622821202 : True := trivial
theorem top.tw649594095290182367 : True := trivial
theorem top.tw2617719716777270872 : True := trivial
theorem top.tw16666122058527598403 : True := trivial
theorem top.tw5118827330378232414 : True := trivial
theorem top.tw14168018189251442112 : True := trivial
theorem top.tw16155163154822807229 : True := trivial
theorem top.tw9614876229902214918 : True := trivial
theorem top.tw2555065506035805374 : True := trivial
theorem top.tw14826035006057030972 : True := trivial
theorem top.tw6919701780365589675 : True := trivial
theorem top.tw775762912060472103 : True := trivial
theorem top.tw13889484949932952446 : True := trivial
theorem top.tw18164388396756303480 : True := trivial
theorem top.tw1585457916280141200 : True := trivial
theorem top.tw4159251561096739476 : True := trivial
theorem top.tw8184561461823581802 : True := trivial
theorem top.tw4498253355057717688 : True := trivial
theorem top.tw16900427199656544559 : True := trivial
theorem top.tw11334415319851112604 : True := trivial
theorem top.tw7527032243904285869 : True := trivial
theorem top.tw2822501910515967889 : True := trivial
theorem top.tw18063644159110109576 : True := trivial
theorem top.tw12342655685612074800 : True := trivial
theorem top.tw12958502747184954254 : True := trivial
theorem top.tw5969682004907312646 : True := trivial
theorem top.tw12819366960792805191 : True := trivial
theorem top.tw72247145696351765 : True := trivial
theorem top.tw1142415686869020238 : True := trivial
theorem top.tw17886615442053742456 : True := trivial
theorem top.tw708234853630380328 : True := trivial
theorem top.tw4713442408853163898 : True := trivial
theorem top.tw13822267516522204269 : True := trivial
theorem top.tw15299407806266782574 : True := trivial
theorem top.tw13345470168829271861 : True := trivial
theorem top.tw13369591340354186047 : True := trivial
theorem top.tw2665807947273092163 : True := trivial
theorem top.tw7297446738713254254 : True := trivial
theorem top.tw3195968871104189447 : True := trivial
theorem top.tw16439428074185983240 : True := trivial
theorem top.tw12643491718579748851 : True := trivial
theorem top.tw2867133514656366558 : True := trivial
theorem top.tw12718909917080609646 : True := trivial
theorem top.tw17810072253543177317 : True := trivial
theorem top.tw16325430554902658873 : True := trivial
theorem top.tw1516213087968936877 : True := trivial
theorem top.tw15361541807878343388 : True := trivial
theorem top.tw14263998999751124003 : True := trivial
theorem top.tw2741389259953327712 : True := trivial
theorem top.tw13370750898655102155 : True := trivial
theorem top.tw17470836177267949868 : True := trivial
theorem top.tw6491118196486620199 : True := trivial
theorem top.tw16782997733028217545 : True := trivial
theorem top.tw8345894832289464959 : True := trivial
theorem top.tw12622177474791663080 : True := trivial
theorem top.tw11466170419677230873 : True := trivial
theorem top.tw9229161468869434483 : True := trivial
theorem top.tw4655869559712951663 : True := trivial
theorem top.tw5225153198818245361 : True := trivial
theorem top.tw9059832203979395877 : True := trivial
theorem top.tw13896958669275611876 : True := trivial
theorem top.tw5581607755468803823 : True := trivial
theorem top.tw14608685727046917156 : True := trivial
theorem top.tw14282377253939248939 : True := trivial
theorem top.tw1149218181149386328 : True := trivial
theorem top.tw10090393231696489298 : True := trivial
theorem top.tw7414872774492366064 : True := trivial
theorem top.tw14987219478266130788 : True := trivial
theorem top.tw1088946173253831356 : True := trivial
theorem top.tw3337584539547039419 : True := trivial
theorem top.tw14402358008270493973 : True := trivial
theorem top.tw8139039716903228087 : True := trivial
theorem top.tw4321519831107876412 : True := trivial
theorem top.tw2924597203103170677 : True := trivial
theorem top.tw15058813355848621054 : True := trivial
theorem top.tw16840627104734473223 : True := trivial
theorem top.tw9378254376102152143 : True := trivial
theorem top.tw15169761463676818070 : True := trivial
theorem top.tw4551080515912023512 : True := trivial
theorem top.tw17046948494117081484 : True := trivial
theorem top.tw1245559373397905713 : True := trivial
theorem top.tw7429413206186439793 : True := trivial
theorem top.tw814325599930780420 : True := trivial
theorem top.tw10915162052029792233 : True := trivial
theorem top.tw4571971715460732019 : True := trivial
theorem top.tw18085771088847121727 : True := trivial
theorem top.tw16058212318047004132 : True := trivial
theorem top.tw2145171640123136144 : True := trivial
theorem top.tw13928562000808390012 : True := trivial
theorem top.tw12392516345856041104 : True := trivial
theorem top.tw3969286963782609292 : True := trivial
theorem top.tw9800703332001039478 : True := trivial
theorem top.tw9259421805112917234 : True := trivial
theorem top.tw17315540178315561739 : True := trivial
theorem top.tw4186445540838780016 : True := trivial
theorem top.tw6812286434817487243 : True := trivial
theorem top.tw17428532607074087071 : True := trivial
theorem top.tw2732273902793177162 : True := trivial
theorem top.tw877433047237710547 : True := trivial
theorem top.tw1732150942055357024 : True := trivial
theorem top.tw5667650583090716360 : True := trivial
theorem top.tw10404823597219466188 : True := trivial
theorem top.tw17555251805378815213 : True := trivial
theorem top.tw2581206410525282061 : True := trivial
theorem top.tw6187478851450931391 : True := trivial
theorem top.tw8538268897159353584 : True := trivial
theorem top.tw6438537300738474071 : True := trivial
theorem top.tw7673058066778466091 : True := trivial
theorem top.tw16196420915677631385 : True := trivial
theorem top.tw6664487174759623829 : True := trivial
set_option Elab.async true in
set_option maxHeartbeats 8000000 in
theorem top : PySem.Challenge.rw_tk0007_01.Holds := by
  w_on
  o_law
  o_head (kHook pre.heap_1 addrs0 (fun _ => by kernel_rfl))
  case hw => w_witness2
  exact walk _ _ (by rfl)
end Mine
end
theorem PySem.Challenge.cw_tk0007_01_holds : PySem.Challenge.rw_tk0007_01.Holds :=
  Mine.top
