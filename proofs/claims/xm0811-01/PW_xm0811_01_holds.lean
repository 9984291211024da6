import PyProof.Rows.All
import Wide.All
import OpenK.AllK
import Wide.FinOn
import PySem.Challenge.RW_xm0811_01
open PySem PySem.W PyProof.Rows
set_option Elab.async false
section
open PySem PySem.W PyProof.Rows
namespace Mine
set_option maxRecDepth 100000 in
set_option maxHeartbeats 8000000 in
open_top hd for PySem.Challenge.rw_xm0811_01
end Mine
end
section
open PySem PySem.W PyProof.Rows PySem.Calls
namespace Mine
set_option maxRecDepth 100000
/-- what follows is named, so that the steps do not carry it -/
theorem qfold {α : Type} {M : Model} {A : Around} {t : Sem α} {Q : α → Shared → Prop} {E : Value → Shared → Prop} {s : Shared} (h : let q := Q; wpAny M A t q E s) : wpAny M A t Q E s := h
end Mine
end
section
open PySem PySem.W PyProof.Rows PySem.Calls
namespace Mine
set_option maxRecDepth 100000
/-- the object that SegmentError(..) makes, ahead of its __init__ -/
abbrev excObj (t : Addr) : Obj := { cls := .ref 44, data := .fields #[.ref t, .none, .none, .none, .bool false, .none] }
abbrev tupObj (vs : List Value) : Obj := { cls := .type "tuple", data := .seq vs.toArray }
theorem bm_B : (Value.ref 44 :: [Value.ref 31, Value.type "Exception", Value.type "BaseException", Value.type "object"]).contains (.type "Exception") = true := by decide +kernel
theorem bm_A : (Value.ref 44 :: [Value.ref 31, Value.type "Exception", Value.type "BaseException", Value.type "object"]).contains (.type "AttributeError") = false := by decide +kernel
theorem bm_N : (Value.ref 44 :: [Value.ref 31, Value.type "Exception", Value.type "BaseException", Value.type "object"]).contains (.type "NameError") = false := by decide +kernel
abbrev clsObj44 : Obj := excClassObj "SegmentError" "SegmentError" 44 43 [.ref 31] [.ref 31, .type "Exception", .type "BaseException", .type "object"] true [] [] false none none
  (some (.ref 35)) none (some (.str "SegmentError" 218)) (some (.str "SegmentError" 226)) (some (.bool true)) "Exception.__new__"
theorem at44 {P : Params} {h : Heap} (X : (hd.heap_39 P).In h) : h.get? 44 = some clsObj44 := X _ _ (by rfl)
section
variable {M : Model} {A : Around} {E : Value → Shared → Prop} {h : Heap} {g : Array GenState} {d : Drawn} {t : Nat} {os : OsState}
theorem check_new44 {rest : List Value} {Q : Unit → Shared → Prop} (hC : h.get? 44 = some clsObj44)
    (hq : Q () ⟨h, g, d, t, os⟩) : wpAny M A (checkBuiltinCall "Exception.__new__" ⟨.ref 44 :: rest, []⟩) Q E ⟨h, g, d, t, os⟩ := by
  have F := PySem.F.excBase_Exception
  have hstar := F.noStar
  simp only [checkBuiltinCall, F.newKind, F.newSplit, F.newRow]
  repeat (first | refine wpAny_loadPart_at hC ?_ | (refine wpAny_isSubtype_exc hC ?_; rw [bm_B]) | refine wpAny_staticBase_exc hC ?_ | refine wpAny_madeBy_exc hC ?_ | simp only [bne_self_eq_false, Bool.false_eq_true, if_false] | wp_step)
  exact hq
end
section
variable {prog : Program} {w : World} {A : Around} {R : Result → Shared → Prop} {h : Heap} {g : Array GenState} {d : Drawn} {t : Nat} {os : OsState}
theorem new44 {rest : List Value} (hC : h.get? 44 = some clsObj44)
    (hq : R (.ok (.ret (.ref (h.objs.size + 1)))) ⟨(h.push (tupObj rest)).push (excObj h.objs.size), g, d, t, os⟩) (hrest : rest.length ≤ sizeLine) :
    codeAny (model prog w) A (.builtin "Exception.__new__" ⟨.ref 44 :: rest, []⟩) R ⟨h, g, d, t, os⟩ := by
  have F := PySem.F.excBase_Exception
  have hends := F.ends
  refine codeAny_builtinAt F.entry ?_
  unfold Builtin.«BaseException.__new__»
  refine PySem.wpAt_bind ?_
  show PySem.wpAt _ _ _ (stack >>= _) _ _ _
  refine PySem.wpAt_bind (PySem.wpAt_stack fun p below => PySem.wpAt_of_wpAny ?_)
  wp_walk
  refine PySem.wpAt_of_wpAny ?_
  rw [F.owner]
  repeat (first | with_reducible refine wpAny_madeHere_exc F.canon hC ?_ | with_reducible refine wpAny_loadPart_at hC ?_ | (with_reducible refine wpAny_isSubtype_exc hC ?_; first | rw [bm_B] | rw [bm_A] | rw [bm_N]) | wp_step)
  show R _ _
  rw [Heap.size_push]
  exact hq
end
end Mine
end
section
open PySem PySem.W PyProof.Rows PySem.Calls
namespace Mine
set_option maxRecDepth 100000
theorem find_init {P : Params} : findIn (hd.heap_39 P) (.ref 44) "__init__" = some (some (.ref 28)) := by kernel_rfl
theorem fn28 {P : Params} : typeIn (hd.heap_39 P) (.ref 28) = some (.type "function") := by kernel_rfl
section
variable {prog : Program} {w : World} {A : Around} {R : Result → Shared → Prop} {h : Heap} {g : Array GenState} {d : Drawn} {t : Nat} {os : OsState}
theorem make44 {rest : List Value} (X : (hd.heap_39 w.params).In h) (hrest : rest.length ≤ sizeLine)
    (hq : codeAny (model prog w) (A.under (.builtin "type.__call__" ⟨.ref 44 :: rest, []⟩)) (.call (.ref 28) ⟨.ref (h.objs.size + 1) :: rest, []⟩) (InitBack (h.objs.size + 1) R) ⟨(h.push (tupObj rest)).push (excObj h.objs.size), g, d, t, os⟩) :
    codeAny (model prog w) A (.call (.ref 44) ⟨rest, []⟩) R ⟨h, g, d, t, os⟩ := by
  have F := PySem.F.excBase_Exception
  have hC := at44 X
  have f1 := tc_lookup
  have f2 := tc_bind (.ref 44)
  have hT : (⟨h, g, d, t, os⟩ : Shared).TypeIs (.ref 44) "type" := ⟨_, hC, rfl⟩
  refine codeAny_of_tree ?_
  show wpAny _ _ (callAny (.ref 44) _) _ _ _
  repeat (any_goals (first | assumption | with_reducible refine wpAny_loadPart_at hC ?_ | wp_step))
  refine ⟨rfl, ?_⟩
  refine codeAny_call_builtin_at (Code.quiet_builtin _ (by decide +kernel)) entry_typeCall (wpAny_check_type_call_sub hC ?_)
  repeat (first | with_reducible refine wpAny_loadPart_at hC ?_ | with_reducible refine wpAny_madeBy_exc hC ?_ | wp_step)
  refine codeAny_call_builtin_code (Code.quiet_builtin _ F.quiet) (check_new44 hC ?_)
  refine new44 hC ?_ hrest
  show wpAny _ _ _ _ _ _
  have k : ∀ b o, h.get? b = some o → ((h.push (tupObj rest)).push (excObj h.objs.size)).get? b = some o := fun b o e => Heap.get?_push_of_some _ (Heap.get?_push_of_some _ e)
  have hx : ((h.push (tupObj rest)).push (excObj h.objs.size)).get? (h.objs.size + 1) = some (excObj h.objs.size) := by heap_get
  have X' := X.keeps k
  have t1 : Looks (model prog w) ((h.push (tupObj rest)).push (excObj h.objs.size)) (typeOf (.ref (h.objs.size + 1))) (.ref 44) := (Looks.ld hx).andThen .now
  have s1 : Looks (model prog w) ((h.push (tupObj rest)).push (excObj h.objs.size)) (isSubtype (.ref 44) (.ref 44)) true := looks_mroIn X' (by kernel_rfl)
  have i1 : Looks (model prog w) ((h.push (tupObj rest)).push (excObj h.objs.size)) (typeLookup (.ref 44) "__init__") (some (.ref 28)) := looks_findIn X' find_init
  have b1 : Looks (model prog w) ((h.push (tupObj rest)).push (excObj h.objs.size)) (bindSpecial (.ref 28) (.ref (h.objs.size + 1))) (.ref 28, [.ref (h.objs.size + 1)]) := bind_fn X' _ fn28
  unfold isInstance
  refine wpAny_bind (wpAny_bind (t1.at (s1.at ?_)))
  repeat (first | with_reducible refine Looks.at t1 ?_ | with_reducible refine Looks.at i1 ?_ | with_reducible refine Looks.at b1 ?_ | with_reducible refine wpAny_call ?_ | lk)
  refine codeAny_mono hq fun r s' z => ?_
  rcases r with e | (v | _ | _ | _) <;> first | exact z | exact z.elim | skip
  obtain ⟨rfl, z⟩ := z
  exact wpAny_pure (wpAny_pure z)
end
end Mine
end
section
open PySem PySem.W PyProof.Rows PySem.Calls PySem.Builtin PySem.Builtin.ObjectAttr
namespace Mine
set_option maxRecDepth 100000
/-- the exception's object, made: its args at t, its dict at dx -/
abbrev excAt (od : Option Addr) (fs : Array Value) : Obj := { cls := .ref 44, dict := od, data := .fields fs }
abbrev msgDict (P : Params) (tk : Tok) (v : Value) : Obj := dictOf [⟨PyData.keyHash P "message", .str "message" tk, v⟩] 1
theorem sub_exc {P : Params} : subIn (hd.heap_39 P) (.ref 44) (.type "Exception") = some true := by kernel_rfl
theorem sub_obj {P : Params} : subIn (hd.heap_39 P) (.ref 44) (.type "object") = some true := by kernel_rfl
theorem sub_bexc {P : Params} : subIn (hd.heap_39 P) (.ref 44) (.type "BaseException") = some true := by kernel_rfl
theorem find_sa {P : Params} : findIn (hd.heap_39 P) (.ref 44) "__setattr__" = some (some (.builtin "object.__setattr__")) := by kernel_rfl
theorem find_ga {P : Params} : findIn (hd.heap_39 P) (.ref 44) "__getattribute__" = some (some (.builtin "BaseException.__getattribute__")) := by kernel_rfl
theorem find_gt {P : Params} : findIn (hd.heap_39 P) (.ref 44) "__getattr__" = some none := by kernel_rfl
theorem find_msg {P : Params} : findIn (hd.heap_39 P) (.ref 44) "message" = some none := by kernel_rfl
theorem cls44 {P : Params} : clsIn (hd.heap_39 P) 44 = some { name := "SegmentError", bases := [.ref 31], mro := [.ref 44, .ref 31, .type "Exception", .type "BaseException", .type "object"], ns := 43, qualname := "SegmentError", hasDict := true, slotNames := [], subclasses := [], abstract := false, collection := none, hasDel := false } := by kernel_rfl
theorem refuse44 (self : Value) : refuseLoop self "__setattr__" [.ref 44, .ref 31, .type "Exception", .type "BaseException", .type "object"] = pure () := by
  rw [refuseLoop_ref, refuseLoop_ref]
  kernel_rfl
section
variable {prog : Program} {w : World} {A : Around} {E : Value → Shared → Prop} {h : Heap} {g : Array GenState} {d : Drawn} {t : Nat} {os : OsState} {e : Addr} {oe : Obj}
theorem exc_init {t0 : Addr} {rest : List Value} {Q : Value → Shared → Prop} (X : (hd.heap_39 w.params).In h) (he : h.get? e = some (excObj t0)) (hrest : rest.length ≤ sizeLine)
    (hq : Q .none ⟨(h.push (tupObj rest)).update e (Obj.mapFields (·.setIfInBounds 0 (.ref h.objs.size))), g, d, t, os⟩) :
    wpAny (model prog w) A (call (.builtin "Exception.__init__") (.ref e :: rest)) Q E ⟨h, g, d, t, os⟩ := by
  have F := PySem.F.excBase_Exception
  have hC := at44 X
  have hshort := F.noStar
  refine wpAny_call (codeAny_call_builtin F.init.plain F.initEntry ?_)
  simp only [checkBuiltinCall, F.initKind, F.initSplit, F.initRow]
  repeat (first | (with_reducible refine wpAny_loadPart_at he ?_) | with_reducible refine wpAny_loadPart_at hC ?_ | (with_reducible refine wpAny_isSubtype_exc hC ?_; rw [bm_B]) | wp_step)
  refine wpAny_onRaise ?_
  rw [show ∀ (a b : String) (n : Nat), Bind.check ⟨.positional, "*", "Exception", .self, [⟨"args", .varPos, false⟩]⟩ a b n (List.map (fun x => x.fst) ({ pos := Value.ref e :: rest } : Args).kw) = pure () from
    fun a b n => check_star_args _ _ _ _ _ _]
  refine wpAny_pure ?_
  wp_walk
  exact hq
theorem get_msg {tk : Tok} {v : Value} {dx : Addr} {expr : Bool} {Q : Value → Shared → Prop} (X : (hd.heap_39 w.params).In h) (I : InstAt h e oe 44 (some (msgDict w.params tk v))) (hv : handedIn v = true)
    (hq : Q v ⟨h, g, d, t + 1, os⟩) : wpAny (model prog w) A (getAttr (.ref e) "message" expr) Q E ⟨h, g, d, t, os⟩ := by
  have f3 : bindSpecial (.builtin "BaseException.__getattribute__") (.ref e) = pure (.builtin "BaseException.__getattribute__", [.ref e]) := (PySem.F.attr_Exception).ga.bind (.ref e)
  have hx0 : (expr && onTheHeap (Value.builtin "BaseException.__getattribute__")) = false := by cases expr <;> rfl
  have hx2 : (Value.builtin "BaseException.__getattribute__" == Value.builtin "object.__getattribute__") = false := by decide +kernel
  have hx1 : (onTheHeap (Value.ref 44) && Value.builtin "BaseException.__getattribute__" == Value.builtin "object.__getattribute__") = false := by rw [hx2]; rfl
  have L0 := I.type (M := model prog w)
  have L1 := looks_findIn (M := model prog w) X find_ga
  have L2 := looks_findIn (M := model prog w) X find_gt
  have L3 : Looks (model prog w) h (find (.ref e) (.ref 44) "message") (.value v) := looks_find X I (by
    unfold findObj
    rw [cls44, find_msg]
    rfl)
  have L4 : Looks (model prog w) h (isInstance (.ref e) (.type "BaseException")) true := L0.andThen (looks_subIn X sub_bexc)
  unfold getAttr
  refine wpAny_bind (wpAny_mkText ?_)
  unfold getAttrBy
  refine wpAny_holding (wpAny_bind (L0.at (wpAny_bind (L1.at ?_))))
  dsimp only
  rw [hx1]
  simp only [Bool.false_eq_true, if_false]
  unfold getAttrByItsOwn hookBefore
  rw [show onTheHeap (.ref 44) = true from rfl]
  simp only [if_true]
  refine wpAny_bind (L2.at (wpAny_bind (wpAny_attempt (wpAny_holding ?_))))
  unfold callGetattribute
  rw [hx0]
  simp only [Bool.false_eq_true, if_false]
  unfold boundAndCalled
  refine wpAny_bind ?_
  rw [f3]
  refine wpAny_pure (wpAny_call ?_)
  refine codeAny_call_builtin (PySem.F.attr_Exception).ga.plain PySem.F.entry_bexc_ga (@check_slot (model prog w) _ _ _ "BaseException.__getattribute__" "BaseException" "__getattribute__" (.ref e) [.str "message" t] [] _ (by decide +kernel) (by decide +kernel) L4 (PySem.F.args_bexc_ga _ _) ?_)
  unfold Builtin.«object.__getattribute__»
  repeat (first | with_reducible refine Looks.at L3 ?_ | with_reducible refine Looks.at L0 ?_ | lk)
  show wpAny _ _ (handedOut v) _ _ _
  rw [handedOut_of hv]
  exact wpAny_pure hq
end
section
variable {prog : Program} {w : World} {A : Around} {E : Value → Shared → Prop} {s : Shared} {e L : Addr} {h₀ : Heap} {m : Str → Option Value} {news : List (Addr × Obj)}
theorem set_msg {fs : Array Value} {v : Value} {Q : Unit → Shared → Prop} (X₀ : (hd.heap_39 w.params).In h₀) (F : Fr h₀ L s.heap m) (N : News h₀ L s.heap ((e, excAt none fs) :: news)) (hne : ∀ p ∈ news, p.1 ≠ e)
    (h : ∀ h' dx tk tk', Fr h₀ L h' m → News h₀ L h' ((dx, msgDict w.params tk v) :: (e, excAt (some dx) fs) :: news) → Q () { s with heap := h', toks := tk' }) :
    wpAny (model prog w) A (setAttr (.ref e) "message" v) Q E s := by
  have X := X₀.keeps F.keep
  obtain ⟨hh, g, d, t, os⟩ := s
  dsimp only at F N X h
  obtain ⟨he, heL, hen⟩ := N _ (.head _)
  have I : W.InstAt hh e (excAt none fs) 44 none := ⟨he, rfl, rfl, trivial⟩
  have SF := PySem.F.store_object
  have sub : Looks (model prog w) hh (isInstance (.ref e) (.type "object")) true := I.type.andThen (looks_subIn X sub_obj)
  have hm : Looks (model prog w) hh (mroOf (.ref 44)) [.ref 44, .ref 31, .type "Exception", .type "BaseException", .type "object"] := (looks_clsIn X cls44).andThen .now
  have L3 : Looks (model prog w) hh (storeTaker? none) none := .now
  refine set_plain X I find_sa ?_
  refine codeAny_call_builtin SF.slot.plain SF.entry (@check_slot (model prog w) _ _ ⟨hh, g, d, t + 1, os⟩ "object.__setattr__" "object" "__setattr__" (.ref e) [.str "message" t, v] [] _ SF.kind SF.split sub (SF.args (.ref e) (.str "message" t) v) ?_)
  rw [osa_eq, refuse_eq]
  refine wpAny_bind (wpAny_bind (I.type.at (wpAny_bind (hm.at ?_))))
  rw [refuse44]
  refine wpAny_pure (wpAny_bind (I.type.at (wpAny_bind ((looks_findIn X find_msg).at (wpAny_bind (L3.at ?_))))))
  dsimp only
  refine wpAny_bind (wpAny_pure (wpAny_bind (wpAny_bind (wpAny_loadPart he (wpAny_bind ((looks_clsIn X cls44).at ?_))))))
  refine wpAny_bind (wpAny_alloc ?_)
  have F1 := F.push emptyDict
  have N1 : News h₀ L (hh.push emptyDict) ((hh.objs.size, emptyDict) :: (e, excAt none fs) :: news) := N.push F emptyDict
  have hlt : e ≠ hh.objs.size := Nat.ne_of_lt (Heap.lt_size he)
  obtain ⟨F2, N2⟩ := news_upd (pre := [(hh.objs.size, emptyDict)]) (d := e) (o := excAt none fs) (o' := excAt (some hh.objs.size) fs) (f := fun o => { o with dict := some hh.objs.size }) F1 N1 (by
    intro p hp
    rw [List.mem_singleton.mp hp]
    exact hlt.symm) hne rfl rfl
  refine wpAny_bind (wpAny_update (N1 _ (.tail _ (.head _))).1 ?_)
  dsimp only
  refine wpAny_pure (a := some hh.objs.size) ?_
  dsimp only
  have D := (N2 (hh.objs.size, emptyDict) (List.mem_append_left _ (.head _))).1
  obtain ⟨F3, N3⟩ := news_upd (pre := []) (d := hh.objs.size) (o := emptyDict) (o' := msgDict w.params (t + 1) v) (f := Obj.putName "message" (PyData.keyHash w.params "message") (.str "message" (t + 1)) v) F2 N2 (fun p hp => (nomatch hp)) (fun p hp => by
    rcases List.mem_cons.mp hp with rfl | hp
    · exact hlt
    · exact Nat.ne_of_lt (Heap.lt_size (N _ (.tail _ hp)).1)) (by
      show Obj.putName _ _ _ _ (dictOf [] 0) = _
      rw [putName_dict]
      rfl) rfl
  have D' := (N3 (hh.objs.size, msgDict w.params (t + 1) v) (.head _)).1
  refine wpAny_bind (wpAny_pure (wpAny_bind ?_))
  unfold nsSet
  refine wpAny_bind (wpAny_bind (wpAny_askSetting (wpAny_pure (wpAny_bind (wpAny_mkText (wpAny_bind (wpAny_loadPart D ?_)))))))
  dsimp only
  have c : (!(#[] : Array DictEntry).any (·.key.isStr "message") && (#[] : Array DictEntry).any (·.refKey)) = false := by simp
  rw [aRefKeyMayBeTheName_at, c]
  refine wpAny_updatePart D ?_
  refine wpAny_bind (wpAny_lookBehind D' (pastItsLine_dict (by rw [List.size_toArray, sizeLine_eq, List.length_cons, List.length_nil]; omega)) ?_)
  exact wpAny_pure (h _ _ _ _ F3 N3)
end
end Mine
end
section
open PySem PySem.W PyProof.Rows PySem.Calls
namespace Mine
set_option maxRecDepth 100000
theorem cls_exc {P : Params} : findCls (hd.heap_39 P) (.type "Exception") (.type "type") "__init__" = some (.val (.builtin "Exception.__init__")) := by kernel_rfl
theorem meta_exc : typeOf (.type "Exception") = pure (.type "type") := by kernel_rfl
section
variable {prog : Program} {w : World} {A : Around} {E : Value → Shared → Prop} {s : Shared} {e L : Addr} {h₀ : Heap} {m : Str → Option Value} {news : List (Addr × Obj)}
theorem exc_method {pl : Sem Bool} {Q : Value × List Value → Shared → Prop} (X₀ : (hd.heap_39 w.params).In h₀) (F : Fr h₀ L s.heap m) (h : Q (.builtin "Exception.__init__", []) { s with toks := s.toks + 1 }) :
    wpAny (model prog w) A (getMethod (.type "Exception") "__init__" pl) Q E s := method_type F X₀ meta_exc (by decide +kernel) cls_exc rfl h
theorem exc_initN {t0 : Addr} {rest : List Value} {Q : Value → Shared → Prop} (X₀ : (hd.heap_39 w.params).In h₀) (F : Fr h₀ L s.heap m) (N : News h₀ L s.heap ((e, excObj t0) :: news)) (hne : ∀ p ∈ news, p.1 ≠ e) (hrest : rest.length ≤ sizeLine)
    (h : ∀ h' t', Fr h₀ L h' m → News h₀ L h' ((e, excAt none #[.ref t', .none, .none, .none, .bool false, .none]) :: (t', tupObj rest) :: news) → (∀ p ∈ (t', tupObj rest) :: news, p.1 ≠ e) → Q .none { s with heap := h' }) :
    wpAny (model prog w) A (call (.builtin "Exception.__init__") (.ref e :: rest)) Q E s := by
  have X := X₀.keeps F.keep
  obtain ⟨hh, g, d, t, os⟩ := s
  dsimp only at F N X h
  obtain ⟨he, heL, hen⟩ := N _ (.head _)
  have hlt : e ≠ hh.objs.size := Nat.ne_of_lt (Heap.lt_size he)
  have F1 := F.push (tupObj rest)
  have N1 : News h₀ L (hh.push (tupObj rest)) ((hh.objs.size, tupObj rest) :: (e, excObj t0) :: news) := N.push F (tupObj rest)
  obtain ⟨F2, N2⟩ := news_upd (pre := [(hh.objs.size, tupObj rest)]) (d := e) (o := excObj t0) (o' := excAt none #[.ref hh.objs.size, .none, .none, .none, .bool false, .none]) (f := Obj.mapFields (·.setIfInBounds 0 (.ref hh.objs.size))) F1 N1 (by
    intro p hp
    rw [List.mem_singleton.mp hp]
    exact hlt.symm) hne rfl rfl
  refine exc_init X he hrest (h _ hh.objs.size F2 (fun p hp => ?_) fun p hp => ?_)
  · rcases List.mem_cons.mp hp with rfl | hp
    · exact N2 _ (List.mem_append_right _ (.head _))
    · rcases List.mem_cons.mp hp with rfl | hp
      · exact N2 _ (List.mem_append_left _ (.head _))
      · exact N2 _ (List.mem_append_right _ (.tail _ hp))
  · rcases List.mem_cons.mp hp with rfl | hp
    · exact hlt.symm
    · exact hne p hp
end
set_option maxHeartbeats 8000000 in
theorem init28 {w : World} {A : Around} {cn : Str} {cs : Scope} {a L e t0 : Addr} {ccd : Value} {outer : List Env} {A₀ : Around} {base h₀ : Heap} {m : Str → Option Value} {s : Shared} {R : Result → Shared → Prop} {news : List (Addr × Obj)} {mean : ExcName → Option Value} {mg mb : Str → Option Value} {msg : Str} {tk : Tok}
    (B : Below A₀ base outer h₀) (hA : A.frames = some (envOf cn cs L a ccd :: outer)) (F : Fr h₀ L s.heap m) (X : (hd.heap_39 w.params).In h₀) (N : News h₀ L s.heap ((e, excObj t0) :: news)) (hne : ∀ p ∈ news, p.1 ≠ e) (T : Top hd.view_39 (looseW hd.view_39 []) mean mg mb h₀) (hk : cs.kind = .function) (hdp : A.depth < recursionLimit)
    (hret : ∀ h' tk' tk2' t' dx, Fr h₀ L h' m → News h₀ L h' ((dx, msgDict w.params tk2' (.str msg tk)) :: (e, excAt (some dx) #[.ref t', .none, .none, .none, .bool false, .none]) :: (t', tupObj [.str msg tk]) :: news) → R (.ok (.ret .none)) { s with heap := h', toks := tk' }) :
    codeAny (model PySem.Challenge.rw_xm0811_01.row.prog w) A (.call (.ref 28) ⟨[.ref e, .str msg tk], []⟩) R s := by
  revert X
  k_fill
  intro X
  k_dflt (refine' code_def ?k1 ?k2 ?k3 ?k4 ?k5 ?kA ?kF ?kK ?k6 ?k7 ?k8 ?k9 ?kB ?_ ?c2 ?c3 ?c4 ?c5; (case kA => exact hA); (case kF => exact rfl); (case kK => assumption); (case k1 => k_asm); (case k2 => k_asm); (case k3 => k_asm); (case k4 => k_asm); (case k5 => k_asm); (case k6 => k_is); (case k7 => k_is); (case k8 => exact hdp); (case k9 => exact BindsTo.of_eq rfl); (case c5 => decide); (case kB => exact locs rfl); (case c2 => exact rfl); (case c3 => exact rfl); (case c4 => exact rfl); k_whole; intro g' L' h' FG' F' N' B' X' T'; (try dsimp only); (try k_lift B'); (try k_fold))
  (repeat' (first | (k_unfold; (try dsimp only)) | (k_end; wrow_close) | (first | (with_reducible (first | ((with_reducible show wpAny _ _ (getMethod (Value.type "Exception") _ _) _ _ _); first | (k_here; k_dflt (refine' exc_method ?qhk1 ?qhk2 ?_; (case qhk1 => k_asm); (case qhk2 => k_asm); k_whole))) | ((with_reducible show wpAny _ _ (setAttr (Value.ref _) _ _) _ _ _); first | (k_here; k_dflt (refine' set_msg ?qhk1 ?qhk2 ?qhk3 ?qhk4 ?_; (case qhk1 => k_asm); (case qhk2 => k_asm); (case qhk3 => k_asm); (case qhk4 => assumption); k_whole); intro h' dx' tk' tk2' F' N'; (try k_sweep))) | ((with_reducible show wpAny _ _ (call (Value.builtin "Exception.__init__") _) _ _ _); first | (k_here; k_dflt (refine' exc_initN ?qhk1 ?qhk2 ?qhk3 ?qhk4 ?qhk5 ?_; (case qhk1 => k_asm); (case qhk2 => k_asm); (case qhk3 => k_asm); (case qhk4 => assumption); (case qhk5 => size_fits); k_whole); intro h' t' F' N' hne'; (try k_sweep))))) | ((with_reducible show wpAny _ _ (setAttr (Value.ref _) _ _) _ _ _); (k_here; k_dflt (refine' set_msg ?qhk1 ?qhk2 ?qhk3 ?qhk4 ?_; (case qhk1 => k_asm); (case qhk2 => k_asm); (case qhk3 => k_asm); (case qhk4 => assumption); k_whole); intro h' dx' tk' tk2' F' N'; (try k_sweep))) | ((with_reducible show wpAny _ _ (call (Value.builtin "Exception.__init__") _) _ _ _); (k_here; k_dflt (refine' exc_initN ?qhk1 ?qhk2 ?qhk3 ?qhk4 ?qhk5 ?_; (case qhk1 => k_asm); (case qhk2 => k_asm); (case qhk3 => k_asm); (case qhk4 => assumption); (case qhk5 => size_fits); k_whole); intro h' t' F' N' hne'; (try k_sweep))) | ((with_reducible show wpAny _ _ (getMethod (Value.type "Exception") _ _) _ _ _); (k_here; k_dflt (refine' exc_method ?qhk1 ?qhk2 ?_; (case qhk1 => k_asm); (case qhk2 => k_asm); k_whole)))) | walk1 | (dsimp only; walk1) | (leave1; walk_say "STEP leave1"; try dsimp only) | fail "no step"))
  all_goals exact hret _ _ _ _ _ (by assumption) (by assumption)
end Mine
end
section
open PySem PySem.W PyProof.Rows PySem.Calls
namespace Mine
set_option maxRecDepth 100000
theorem seg_call {w : World} {A : Around} {cn : Str} {cs : Scope} {a L : Addr} {ccd : Value} {outer : List Env} {A₀ : Around} {base h₀ : Heap} {m : Str → Option Value} {s : Shared} {Q E : Value → Shared → Prop} {news : List (Addr × Obj)} {mean : ExcName → Option Value} {mg mb : Str → Option Value} {msg : Str} {tk : Tok}
    (B : Below A₀ base outer h₀) (hA : A.frames = some (envOf cn cs L a ccd :: outer)) (F : Fr h₀ L s.heap m) (X : (hd.heap_39 w.params).In h₀) (N : News h₀ L s.heap news) (T : Top hd.view_39 (looseW hd.view_39 []) mean mg mb h₀) (hk : cs.kind = .function) (hdp : A.depth + 1 < recursionLimit)
    (hret : ∀ h' tk' tk2' e t' dx, Fr h₀ L h' m → News h₀ L h' ((dx, msgDict w.params tk2' (.str msg tk)) :: (e, excAt (some dx) #[.ref t', .none, .none, .none, .bool false, .none]) :: (t', tupObj [.str msg tk]) :: news) → (∀ p ∈ news, p.1 ≠ e) → Q (.ref e) { s with heap := h', toks := tk' }) :
    wpAny (model PySem.Challenge.rw_xm0811_01.row.prog w) A (call (.ref 44) [.str msg tk]) Q E s := by
  obtain ⟨hh, g, d, t, os⟩ := s
  dsimp only at F N hret
  have F1 := F.push (tupObj [.str msg tk])
  have N1 : News h₀ L (hh.push (tupObj [.str msg tk])) ((hh.objs.size, tupObj [.str msg tk]) :: news) := N.push F _
  have F2 := F1.push (excObj hh.objs.size)
  have N2 := N1.push F1 (excObj hh.objs.size)
  rw [Heap.size_push] at N2
  refine wpAny_call (make44 (X.keeps F.keep) (by size_fits) ?_)
  refine init28 (m := m) (s := ⟨(hh.push (tupObj [.str msg tk])).push (excObj hh.objs.size), g, d, t, os⟩) (t0 := hh.objs.size) (news := (hh.objs.size, tupObj [.str msg tk]) :: news) B hA F2 X N2 (fun p hp => ?_) T hk (by show A.depth + 1 < recursionLimit; exact hdp) ?_
  · rcases List.mem_cons.mp hp with rfl | hp
    · exact Nat.ne_of_lt (Nat.lt_succ_self _)
    · exact Nat.ne_of_lt (Nat.lt_succ_of_lt (Heap.lt_size (N _ hp).1))
  · intro h' tk' tk2' t' dx F' N'
    refine ⟨rfl, hret h' tk' tk2' _ t' dx F' (fun p hp => N' p ?_) fun p hp => Nat.ne_of_lt (Nat.lt_succ_of_lt (Heap.lt_size (N _ hp).1))⟩
    rcases List.mem_cons.mp hp with rfl | hp
    · exact .head _
    · rcases List.mem_cons.mp hp with rfl | hp
      · exact .tail _ (.head _)
      · rcases List.mem_cons.mp hp with rfl | hp
        · exact .tail _ (.tail _ (.head _))
        · exact .tail _ (.tail _ (.tail _ (.tail _ hp)))
end Mine
end
section
open PySem PySem.W PyProof.Rows PySem.Calls
namespace Mine
set_option maxRecDepth 100000
/-- what the objects with fields keep: their class, their dict, that they have fields -/
def KeepD (h h' : Heap) : Prop := ∀ b o fs, h.get? b = some o → o.data = .fields fs → ∃ o' fs', h'.get? b = some o' ∧ o'.cls = o.cls ∧ o'.dict = o.dict ∧ o'.data = .fields fs'
theorem KeepD.refl (h : Heap) : KeepD h h := fun _ o fs e d => ⟨o, fs, e, rfl, rfl, d⟩
theorem KeepD.trans {a b c : Heap} (x : KeepD a b) (y : KeepD b c) : KeepD a c := fun q o fs e d => by
  obtain ⟨o1, f1, e1, c1, d1, g1⟩ := x q o fs e d
  obtain ⟨o2, f2, e2, c2, d2, g2⟩ := y q o1 f1 e1 g1
  exact ⟨o2, f2, e2, c2.trans c1, d2.trans d1, g2⟩
theorem KeepD.push (h : Heap) (o : Obj) : KeepD h (h.push o) := fun _ x fs e d => ⟨x, fs, Heap.get?_push_of_some _ e, rfl, rfl, d⟩
def Soft (f : Obj → Obj) : Prop := ∀ o, (f o).cls = o.cls ∧ (f o).dict = o.dict ∧ ∀ fs, o.data = .fields fs → ∃ fs', (f o).data = .fields fs'
theorem KeepD.update {f : Obj → Obj} (hf : Soft f) (h : Heap) (a : Addr) : KeepD h (h.update a f) := fun b o fs e d => by
  by_cases q : a = b
  · subst q
    obtain ⟨c1, d1, g1⟩ := hf o
    obtain ⟨fs', g⟩ := g1 fs d
    exact ⟨f o, fs', Heap.get?_update_self _ e (Obj.isFreed_of_fields g), c1, d1, g⟩
  · exact ⟨o, fs, (Heap.get?_update_other _ _ q).trans e, rfl, rfl, d⟩
def Gentle {α : Type} : Sem α → Prop
  | .pure _ => True
  | .raise _ => True
  | .unsupported _ => True
  | .finish _ => True
  | .rule _ k => Gentle (k ())
  | .at _ k => Gentle (k ())
  | .load _ _ k => ∀ o, Gentle (k o)
  | .update _ _ f k => Soft f ∧ Gentle (k ())
  | .alloc _ k => ∀ a, Gentle (k a)
  | .loadIfAlive _ k => ∀ o, Gentle (k o)
  | .point _ k => Gentle (k ())
  | .register _ _ => True
  | .fresh k => ∀ t, Gentle (k t)
  | .ask k => ∀ x, Gentle (k x)
  | .handled _ k => ∀ x, Gentle (k x)
  | .stack k => ∀ x, Gentle (k x)
  | _ => False
theorem Gentle.bind {α β : Type} {m : Sem α} {f : α → Sem β} (hm : Gentle m) (hf : ∀ a, Gentle (f a)) : Gentle (m >>= f) := by
  show Gentle (m.bind f)
  induction m with
  | pure a => exact hf a
  | raise e => trivial
  | unsupported w => trivial
  | finish e => trivial
  | rule t k ih => exact ih () hm
  | «at» p k ih => exact ih () hm
  | load a p k ih => exact fun o => ih o (hm o)
  | update a p g k ih => exact ⟨hm.1, ih () hm.2⟩
  | alloc o k ih => exact fun a => ih a (hm a)
  | loadIfAlive a k ih => exact fun o => ih o (hm o)
  | point l k ih => exact ih () hm
  | register a k ih => trivial
  | fresh k ih => exact fun t => ih t (hm t)
  | ask k ih => exact fun t => ih t (hm t)
  | handled b k ih => exact fun t => ih t (hm t)
  | stack k ih => exact fun t => ih t (hm t)
  | _ => exact hm.elim
theorem wp_gentle {α : Type} {M : Model} {Γ : Ctx} {h₀ : Heap} {Q : α → Pos → Shared → Prop} {E : Value → Pos → Shared → Prop} (t : Sem α) : ∀ (p : Pos) (s : Shared), Gentle t → KeepD h₀ s.heap → Sem.wp M Γ t Q E p s →
    Sem.wp M Γ t (fun a p' s' => Q a p' s' ∧ KeepD h₀ s'.heap) (fun e p' s' => E e p' s' ∧ KeepD h₀ s'.heap) p s := by
  induction t with
  | pure a => intro p s _ k h; simp only [Sem.wp] at h ⊢; exact ⟨h, k⟩
  | raise e => intro p s _ k h; simp only [Sem.wp] at h ⊢; exact ⟨h, k⟩
  | unsupported w => intro p s _ k h; simp only [Sem.wp] at h
  | finish e => intro p s _ k h; simp only [Sem.wp] at h
  | rule t k ih => intro p s g kk h; simp only [Sem.wp] at h ⊢; exact ih () p s g kk h
  | «at» p k ih => intro p s g kk h; simp only [Sem.wp] at h ⊢; exact ih () _ s g kk h
  | load a p k ih =>
    intro p s g kk h
    simp only [Sem.wp] at h ⊢
    obtain ⟨o, ho, h⟩ := h
    exact ⟨o, ho, ih o p s (g o) kk h⟩
  | update a p f k ih =>
    intro p s g kk h
    simp only [Sem.wp] at h ⊢
    exact ⟨h.1, ih () p { s with heap := s.heap.update a f } g.2 (kk.trans (KeepD.update g.1 _ _)) h.2⟩
  | alloc o k ih =>
    intro p s g kk h
    simp only [Sem.wp] at h ⊢
    exact ih _ p { s with heap := s.heap.push o } (g _) (kk.trans (KeepD.push _ _)) h
  | loadIfAlive a k ih => intro p s g kk h; simp only [Sem.wp] at h ⊢; exact ih _ p s (g _) kk h
  | point l k ih => intro p s g kk h; simp only [Sem.wp] at h ⊢; exact ih () p s g kk h
  | register a k ih => intro p s g kk h; simp only [Sem.wp] at h
  | fresh k ih => intro p s g kk h; simp only [Sem.wp] at h ⊢; exact ih _ p { s with toks := s.toks + 1 } (g _) kk h
  | ask k ih => intro p s g kk h; simp only [Sem.wp] at h ⊢; exact ih _ p s (g _) kk h
  | handled b k ih => intro p s g kk h; simp only [Sem.wp] at h ⊢; exact ih _ p s (g _) kk h
  | stack k ih => intro p s g kk h; simp only [Sem.wp] at h ⊢; exact ih _ p s (g _) kk h
  | _ => exact fun p s g kk h => g.elim
theorem wpAny_gentle {α : Type} {M : Model} {A : Around} {t : Sem α} {Q : α → Shared → Prop} {E : Value → Shared → Prop} {s : Shared} (g : Gentle t) (h : wpAny M A t Q E s) :
    wpAny M A t (fun a s' => Q a s' ∧ KeepD s.heap s'.heap) (fun e s' => E e s' ∧ KeepD s.heap s'.heap) s :=
  fun Γ p hΓ => wp_gentle t p s g (KeepD.refl _) (h Γ p hΓ)
theorem gentle_pure {α : Type} (a : α) : Gentle (Pure.pure a : Sem α) := trivial
theorem gentle_ite {α : Type} {c : Prop} [Decidable c] {a b : Sem α} (ha : Gentle a) (hb : Gentle b) : Gentle (if c then a else b) := by split <;> assumption
theorem gentle_unsup {α : Type} (w : String) : Gentle (unsupported w : Sem α) := trivial
theorem gentle_load (a : Addr) : Gentle (load a) := fun _ => trivial
theorem soft_map (f : Array Value → Array Value) : Soft (Obj.mapFields f) := fun o => ⟨Obj.cls_mapFields _ _, by cases o with | mk c d dt sl => cases dt <;> rfl, fun fs e => ⟨f fs, Obj.data_mapFields e f⟩⟩
theorem gentle_field (v : Value) (i : Nat) : Gentle (field v i) := by
  unfold field fieldsOf
  refine Gentle.bind ?_ fun a => by split <;> trivial
  split
  · refine Gentle.bind (gentle_load _) fun o => ?_
    split <;> trivial
  · trivial
theorem gentle_setField (v : Value) (i : Nat) (x : Value) : Gentle (setField v i x) := by
  unfold setField
  split
  · unfold updateField
    refine Gentle.bind (gentle_load _) fun o => ?_
    split
    · split
      · exact ⟨soft_map _, trivial⟩
      · trivial
    · trivial
  · trivial
theorem gentle_setFlight (e : Value) (f : Option Addr) : Gentle (setFlight e f) := by
  unfold setFlight
  refine Gentle.bind (gentle_field _ _) fun tb => ?_
  split
  · exact gentle_setField _ _ _
  · trivial
theorem gentle_ready : ∀ l : List Env, Gentle (readyFrames l)
  | [] => trivial
  | env :: outer => by
    unfold readyFrames
    split
    · refine Gentle.bind (gentle_load _) fun o => ?_
      split
      · trivial
      · refine Gentle.bind ?_ fun i => Gentle.bind ?_ fun b => Gentle.bind ⟨fun o => ⟨rfl, rfl, fun fs e => ⟨fs, e⟩⟩, trivial⟩ fun _ => gentle_ready outer
        · unfold behindIsImport
          split
          · trivial
          · split
            · trivial
            · exact Gentle.bind (gentle_field _ _) fun _ => trivial
        · unfold keptBack
          split
          · split
            · trivial
            · unfold underTheClaimsCaller
              refine Gentle.bind ?_ fun _ => trivial
              exact Gentle.bind (fun _ => trivial) fun _ => trivial
          · trivial
    · trivial
theorem gentle_frameOf (env : Env) : Gentle (PySem.frameOf env) := by
  unfold PySem.frameOf frameEnvs
  refine Gentle.bind (Gentle.bind (fun _ => trivial) fun _ => trivial) fun l => Gentle.bind ?_ fun r => by split <;> trivial
  unfold frameObject
  split
  · trivial
  · exact Gentle.bind (gentle_ready _) fun _ => trivial
theorem gentle_place (f : Addr) (b : Bool) : Gentle (entryPlaceOf f b) := by
  unfold entryPlaceOf
  refine Gentle.bind (fun _ => trivial) fun l => ?_
  split <;> trivial
theorem gentle_entry (a b c d e : Value) (l : List Value) : Gentle (EntryCells.newEntry a b c d e l) := by
  unfold EntryCells.newEntry newFields newObj
  dsimp only
  have as : ∀ vs, Gentle (newObjAsIs (.type "traceback") (.fields vs)) := fun vs => fun _ => trivial
  refine gentle_ite ?_ (as _)
  exact Gentle.bind trivial fun _ => as _
theorem gentle_note (e : Value) (env : Env) : Gentle (noteFrame e env) := by
  unfold noteFrame
  split
  · refine Gentle.bind (gentle_field _ _) fun hd => ?_
    have tail : ∀ f b, Gentle (do let a ← PySem.frameOf env; let pl ← entryPlaceOf f b; let t ← EntryCells.newEntry hd a .none (rawInt f) .none pl; setField e 1 t) := fun f b =>
      Gentle.bind (gentle_frameOf _) fun _ => Gentle.bind (gentle_place _ _) fun _ => Gentle.bind (gentle_entry _ _ _ _ _ _) fun _ => gentle_setField _ _ _
    split
    · refine Gentle.bind (gentle_field _ _) fun x => ?_
      split
      · trivial
      · exact Gentle.bind (gentle_setField _ _ _) fun _ => tail _ _
    · exact tail _ _
  · trivial
theorem gentle_leaving (e : Value) (env : Env) : Gentle (leaving env e) := Gentle.bind (gentle_note _ _) fun _ => gentle_setFlight _ _
end Mine
end
section
open PySem PySem.W PyProof.Rows PySem.Calls
namespace Mine
set_option maxRecDepth 100000
/-- a SegmentError in flight: its class, its dict with the message, what stands -/
def RaisedD (P : Params) (base G : Heap) (l : List Env) (e : Addr) (msg : Str) (news : List (Addr × Obj)) (h : Heap) : Prop :=
  ∃ (B : Heap) (dx : Addr) (tk tk2 : Tok) (a0 : Value) (oe : Obj) (fs : Array Value), base.StaysIn B ∧ (∀ b o, G.get? b = some o → b ∉ l.filterMap (·.frame) → B.get? b = some o) ∧
    (∀ q ∈ (dx, msgDict P tk2 (.str msg tk)) :: news, B.get? q.1 = some q.2 ∧ G.get? q.1 = none ∧ base.get? q.1 = none) ∧ Heap.FlyingW B l e (.ref 44) a0 h ∧ h.get? e = some oe ∧ oe.dict = some dx ∧ oe.data = .fields fs
section
variable {M : Model} {A : Around} {E : Value → Shared → Prop} {s' : Shared} {base g g₂ : Heap} {outer : List Env} {L a e t dx : Addr} {m : Str → Option Value} {name : Str} {scope : Scope} {cd : Value} {Q : Unit → Shared → Prop} {news : List (Addr × Obj)} {P : Params} {msg : Str} {tk tk2 : Tok} {fs : Array Value}
theorem leave_firstD {tO : Obj} (K : Below A base outer g) (F : Fr g L s'.heap m) (N : News g L s'.heap ((dx, msgDict P tk2 (.str msg tk)) :: (e, excAt (some dx) #[.ref t, .none, .none, .none, .bool false, .none]) :: (t, tO) :: news)) (hne : ∀ p ∈ news, p.1 ≠ e)
    (hQ : ∀ h', RaisedD P base g outer e msg news h' → g.UpToSlots h' → Q () { s' with heap := h' }) (hk : scope.kind = .function := by rfl) :
    wpAny M (A.deeper (envOf name scope L a cd)) (leaving (envOf name scope L a cd) (.ref e)) Q E s' := by
  have K' := K.push (name := name) (a := a) (cd := cd) F hk
  obtain ⟨he, heL, hen⟩ := N _ (.tail _ (.head _))
  obtain ⟨hdx, hdxL, hdxn⟩ := N _ (.head _)
  have hde : dx ≠ e := fun q => by
    have q' : s'.heap.get? e = some (msgDict P tk2 (.str msg tk)) := by rw [← q]; exact hdx
    have q2 := he.symm.trans q'
    cases q2
  let fr := (envOf name scope L a cd :: outer).filterMap (·.frame)
  let B := hideAll s'.heap (e :: fr)
  have hin : ∀ env ∈ (envOf name scope L a cd :: outer), ∀ b, env.frame = some b → b ∈ e :: fr := fun env he b hb => .tail _ (List.mem_filterMap.mpr ⟨env, he, hb⟩)
  have hge : g.get? e = none := hen
  have hbe : base.get? e = none := fresh_of_stays K.stays hen
  have st : base.StaysIn B := fun b o q => hideAll_get _ (K'.stays b o q) fun hm => by
    rcases List.mem_cons.mp hm with z | z
    · rw [z, hbe] at q; cases q
    · rw [(K'.frames.mem z).1] at q; cases q
  have sg : ∀ b o, g.get? b = some o → b ∉ outer.filterMap (·.frame) → B.get? b = some o := fun b o q nm => hideAll_get _ (F.keep b o q) fun hm => by
    rcases List.mem_cons.mp hm with z | z
    · rw [z, hge] at q; cases q
    · rcases kts_mem z with z | z
      · rw [z, kts_self F] at q; cases q
      · exact nm z
  have hl : ∀ q ∈ (dx, msgDict P tk2 (.str msg tk)) :: news, B.get? q.1 = some q.2 ∧ g.get? q.1 = none ∧ base.get? q.1 = none := fun q hq => by
    have Nq : s'.heap.get? q.1 = some q.2 ∧ q.1 ≠ L ∧ g.get? q.1 = none := by
      rcases List.mem_cons.mp hq with rfl | hq
      · exact ⟨hdx, hdxL, hdxn⟩
      · exact N q (.tail _ (.tail _ (.tail _ hq)))
    have qe : q.1 ≠ e := by
      rcases List.mem_cons.mp hq with rfl | hq
      · exact hde
      · exact hne q hq
    refine ⟨hideAll_get _ Nq.1 fun hm => ?_, Nq.2.2, fresh_of_stays K.stays Nq.2.2⟩
    rcases List.mem_cons.mp hm with z | hm
    · exact qe z
    obtain ⟨env, he, hf⟩ := List.mem_filterMap.mp hm
    rcases List.mem_cons.mp he with rfl | he
    · exact Nq.2.1 (Option.some.inj hf).symm
    · obtain ⟨o, ho, _⟩ := (K.frames.mem (List.mem_filterMap.mpr ⟨env, he, hf⟩)).2
      rw [Nq.2.2] at ho; cases ho
  have hBe : B.get? e = none := hideAll_none _ (.head _)
  have z := wpAny_leaving_firstW (M := M) (E := fun _ _ => False) (a0 := .ref t) (Q := fun _ s₂ => ∃ h', s₂ = { s' with heap := h' } ∧ Heap.LeftW B (envOf name scope L a cd :: outer) e (.ref 44) (.ref t) s'.heap h')
    K'.stack (funFrames_hide K'.frames hin) rfl he (fun b o hb => of_hideAll _ hb) hBe rfl rfl rfl (fun h' hL => ⟨h', rfl, hL⟩)
  refine wpAny_mono (wpAny_gentle (gentle_leaving _ _) z) (fun _ s₂ q => ?_) fun _ _ q => q.1.elim
  obtain ⟨⟨h', rfl, k1, ⟨_, _, k2⟩, k3, k4⟩, kd⟩ := q
  obtain ⟨o', fs', x1, x2, x3, x4⟩ := kd e _ _ he rfl
  exact hQ h' ⟨B, dx, tk, tk2, .ref t, o', fs', st, sg, hl, ⟨k1, hBe, k2, k3⟩, x1, x3, x4⟩ ((Heap.UpToSlots.of_keeps F.keep).trans k4)
theorem leave_onD (K : Below A base outer g) (F : Fr g L g₂ m) (R : RaisedD P base g₂ (envOf name scope L a cd :: outer) e msg news s'.heap) (hsm : g₂.UpToSlots s'.heap)
    (hQ : ∀ h', RaisedD P base g outer e msg news h' → g.UpToSlots h' → Q () { s' with heap := h' }) :
    wpAny M (A.deeper (envOf name scope L a cd)) (leaving (envOf name scope L a cd) (.ref e)) Q E s' := by
  obtain ⟨B, dx, tk, tk2, a0, oe, fs, hB, hBG, hl, hfl, he, hd, hf⟩ := R
  have z := wpAny_leaves_onW (M := M) (E := fun _ _ => False) (env := envOf name scope L a cd) (L := L) (Q := fun _ s₂ => ∃ h', s₂ = { s' with heap := h' } ∧ Heap.FlyingW B outer e (.ref 44) a0 h' ∧ s'.heap.UpToSlots h')
    (Around.frames_deeper K.stack) rfl hfl fun h' x1 x2 => ⟨h', rfl, x1, x2⟩
  refine wpAny_mono (wpAny_gentle (gentle_leaving _ _) z) (fun _ s₂ q => ?_) fun _ _ q => q.1.elim
  obtain ⟨⟨h', rfl, x1, x2⟩, kd⟩ := q
  obtain ⟨o', fs', y1, y2, y3, y4⟩ := kd e _ _ he hf
  refine hQ h' ⟨B, dx, tk, tk2, a0, o', fs', hB, fun b o q nm => hBG b o (F.keep b o q) (fun hm => by
      rcases kts_mem hm with z | z
      · rw [z, kts_self F] at q
        cases q
      · exact nm z), fun q hq => ⟨(hl q hq).1, kts_none F.keep (hl q hq).2.1, (hl q hq).2.2⟩, x1, y1, y3.trans hd, y4⟩ ((Heap.UpToSlots.of_keeps F.keep).trans (hsm.trans x2))
end
section
variable {prog : Program} {w : World} {A₀ : Around} {E : Value → Shared → Prop} {s' : Shared} {base g g₀ G : Heap} {outer : List Env} {L a e : Addr} {m : Str → Option Value} {name : Str} {scope : Scope} {cd : Value}
  {n : Str} {b₀ : Stmt} {suite : List Stmt} {pos np : Pos} {rest : List ExceptHandler} {Q : Flow → Shared → Prop} {news : List (Addr × Obj)}
  {p : Program} {loose : List Str} {mean : ExcName → Option Value} {mg mb : Str → Option Value} {msg : Str}
theorem nm44 {P : Params} : nsIn (hd.heap_39 P) mainGlobals "SegmentError" = some (some (.ref 44)) := by kernel_rfl
theorem kts44 {P : Params} : ktsIn (hd.heap_39 P) 44 "BaseException" = true := by kernel_rfl
theorem caught_D (R : RaisedD w.params base G (envOf name scope L a cd :: outer) e msg news s'.heap) (F : Fr g L G m) (K : Below A₀ base outer g) (hsm : G.UpToSlots s'.heap) (XB : (hd.heap_39 w.params).In base) (TB : Top p loose mean mg mb base)
    (D : KtsDicts (outer.filterMap (·.frame)) g) (T0 : KtsTurn (outer.filterMap (·.frame)) g₀ g)
    (k : ∀ h' g' dx tkm tk2 fs sl tk, KtsTurn (outer.filterMap (·.frame)) g₀ g' → Fr g' L h' (fun y => if y = n then some (.ref e) else m y) →
      News g' L h' ((e, ⟨.ref 44, some dx, .fields fs, sl⟩) :: (dx, msgDict w.params tk2 (.str msg tkm)) :: news) → Below A₀ base outer g' → (hd.heap_39 w.params).In g' → Top p loose mean mg mb g' → KtsDicts (outer.filterMap (·.frame)) g' →
      wpAny (model prog w) ((A₀.deeper (envOf name scope L a cd)).mark (some (.ref e))) (execs (b₀ :: suite) (envOf name scope L a cd))
        (fun f s₄ => wpAny (model prog w) (A₀.deeper (envOf name scope L a cd)) (do bindName (envOf name scope L a cd) n .none; unbindBehindTheSuite (envOf name scope L a cd) n pos) (fun _ s₅ => Q f s₅) E s₄)
        (AsSuiteRaised (model prog w) ((A₀.deeper (envOf name scope L a cd)).mark (some (.ref e))) (envOf name scope L a cd) n pos (notedBy (model prog w) ((A₀.deeper (envOf name scope L a cd)).mark (some (.ref e))) (envOf name scope L a cd) (cameBackBy (model prog w) (A₀.deeper (envOf name scope L a cd)) (envOf name scope L a cd) E)))
        { s' with heap := h', toks := tk })
    (hk : scope.kind = .function := by rfl) (hlo : (envOf name scope L a cd).kindOf n = some .local := by rfl) (hx : (envOf name scope L a cd).kindOf "SegmentError" = some .globalImplicit := by rfl) :
    wpAny (model prog w) (A₀.deeper (envOf name scope L a cd)) (noteFrame (.ref e) (envOf name scope L a cd))
      (fun _ s₂ => wpAny (model prog w) (A₀.deeper (envOf name scope L a cd)) (setFlight (.ref e) none) (fun _ s₃ =>
        wpAny (model prog w) (A₀.deeper (envOf name scope L a cd)) (handleBy (.ref e) (envOf name scope L a cd) (.ExceptHandler (some (.Name "SegmentError" np)) (some n) (b₀ :: suite) pos :: rest)) Q E s₃) E s₂) E s' := by
  obtain ⟨B, dx, tkm, tk2, a0, oe, fs, hB, hBG, hl, hfl, he, hd', hf⟩ := R
  have hL : B.get? L = none := by
    obtain ⟨_, ⟨L', _, hf, hn', _⟩, _⟩ := hfl.2.2.1
    obtain rfl : L = L' := Option.some.inj hf
    exact hn'
  have z1 := wpAny_looks_onW (M := model prog w) (E := fun _ _ => False) (env := envOf name scope L a cd) (L := L) (Q := fun _ s₂ => ∃ h', s₂ = { s' with heap := h' } ∧ Heap.HeldW B (envOf name scope L a cd :: outer) e (.ref 44) a0 L h' ∧ s'.heap.UpToSlots h')
    (Around.frames_deeper K.stack) rfl hfl fun h' x1 x2 => ⟨h', rfl, x1, x2⟩
  refine wpAny_mono (wpAny_gentle (gentle_note _ _) z1) (fun _ s₂ q => ?_) fun _ _ q => q.1.elim
  obtain ⟨⟨h₄, rfl, hheld₄, hsm₄⟩, kd₄⟩ := q
  obtain ⟨o4, f4, y1, y2, y3, y4⟩ := kd₄ e _ _ he hf
  have z2 := wpAny_landsW (M := model prog w) (A := A₀.deeper (envOf name scope L a cd)) (E := fun _ _ => False) (Q := fun _ s₂ => ∃ h', s₂ = { s' with heap := h' } ∧ Heap.FlyingW B (envOf name scope L a cd :: outer) e (.ref 44) a0 h' ∧ h₄.UpToSlots h') (s := { s' with heap := h₄ }) hheld₄ fun h' x1 x2 => ⟨h', rfl, x1, x2⟩
  refine wpAny_mono (wpAny_gentle (gentle_setFlight _ _) z2) (fun _ s₂ q => ?_) fun _ _ q => q.1.elim
  obtain ⟨⟨h₅, rfl, hheld, hsm₅'⟩, kd₅⟩ := q
  obtain ⟨o5, f5, u1, u2, u3, u4⟩ := kd₅ e _ _ y1 y4
  have hsm₅ := hsm₄.trans hsm₅'
  obtain ⟨g₅, T₅, F₅, K₅⟩ := kts_ground K F hBG hheld.1 (hsm.trans hsm₅)
  have X₅ : (hd.heap_39 w.params).In g₅ := XB.keeps K₅.stays
  have P₅ : TopRead p loose mg mb g₅ := topRead_of (TB.keeps K₅.stays)
  obtain ⟨ob, hob, hobc⟩ := hheld.there
  have hC₅ := F₅.keep _ _ (at44 X₅)
  refine wpAny_handleBy_cons (codeAny_handlers_test (name_K F₅ X₅ P₅ nm44 ?_ hk hx (by decide))) (by intro q; cases q)
  refine wpAny_excMatches_sub_self hC₅ hob hobc (by decide +kernel) (codeAny_handlers_suite_as ?_)
  have z3 := lands_againW (M := model prog w) (A := (A₀.deeper (envOf name scope L a cd)).mark (some (.ref e))) (E := fun _ _ => False) (Q := fun _ s₂ => ∃ h', s₂ = { s' with heap := h' } ∧ Heap.FlyingW B (envOf name scope L a cd :: outer) e (.ref 44) a0 h' ∧ h₅.UpToSlots h') (s := { s' with heap := h₅ }) hheld fun h' x1 x2 => ⟨h', rfl, x1, x2⟩
  refine wpAny_mono (wpAny_gentle (gentle_setFlight _ _) z3) (fun _ s₂ q => ?_) fun _ _ q => q.1.elim
  obtain ⟨⟨h₆, rfl, hfl₆, hsm₆⟩, kd₆⟩ := q
  obtain ⟨o6, f6, v1, v2, v3, v4⟩ := kd₆ e _ _ u1 u4
  obtain ⟨g₆, T₆, F₆, K₆⟩ := kts_ground K F hBG hfl₆.1 ((hsm.trans hsm₅).trans hsm₆)
  obtain ⟨ob6, hob6, hobc6⟩ := hfl₆.there
  have ne₆ : g₆.get? e = none := T₆.none_ _ (kts_fresh F hBG hfl₆.2.1 fun o ho m => by
    obtain ⟨_, o', ho', hd⟩ := K.frames.mem m
    rw [ho] at ho'
    cases ho'
    obtain ⟨sl, hs⟩ := ((hsm.trans hsm₅).trans hsm₆) _ _ (F.keep _ _ ho) hd
    have v1' : h₆.get? e = some o6 := v1
    rw [v1'] at hs
    cases hs
    exact hd _ v4)
  have Nl : News g₆ L h₆ ((dx, msgDict w.params tk2 (.str msg tkm)) :: news) := fun q hq => ⟨hfl₆.1 _ _ (hl q hq).1, (fun z => by have := (hl q hq).1; rw [z, hL] at this; cases this), T₆.none_ _ (kts_none F.keep (hl q hq).2.1)⟩
  have N₆ := News.more F₆ Nl v1 (fun es n q => by rw [v4] at q; cases q) ne₆
  have X₆ : (hd.heap_39 w.params).In g₆ := XB.keeps K₆.stays
  have P₆ : Top p loose mean mg mb g₆ := TB.keeps K₆.stays
  have D₆ : KtsDicts (outer.filterMap (·.frame)) g₆ := D.turn T₆
  have o6e : o6 = ⟨.ref 44, some dx, .fields f6, o6.slots⟩ := by
    have c6 : o6.cls = .ref 44 := by
      have v1' : h₆.get? e = some o6 := v1
      have hob6' : h₆.get? e = some ob6 := hob6
      rw [v1'] at hob6'
      cases hob6'
      exact hobc6
    have d6 : o6.dict = some dx := v3.trans (u3.trans (y3.trans hd'))
    obtain ⟨c, d, dt, sl⟩ := o6
    dsimp only at c6 d6 v4
    subst c6 d6 v4
    rfl
  rw [o6e] at N₆
  refine stN F₆ N₆ (fun h₇ F₇ N₇ => ?_) hk hlo
  exact k h₇ g₆ dx tkm tk2 f6 o6.slots _ (T0.trans T₆) F₇ N₇ K₆ X₆ P₆ D₆
end
end Mine
end
section
open PySem PySem.W PyProof.Rows PySem.Calls
namespace Mine
set_option maxRecDepth 100000
def Rais44 (E : Value → Shared → Prop) (v : Value) (s₁ : Shared) : Prop :=
  ∃ e od t, v = .ref e ∧ s₁.heap.get? 44 = some clsObj44 ∧ s₁.heap.get? e = some (excAt od #[.ref t, .none, .none, .none, .bool false, .none]) ∧ E (.ref e) s₁
theorem bm_base : (Value.ref 44 :: [Value.ref 31, Value.type "Exception", Value.type "BaseException", Value.type "object"]).contains (.type "BaseException") = true := by decide +kernel
theorem raise44 {M : Model} {A : Around} {E : Value → Shared → Prop} {s : Shared} {env : Env} {e : Expr} {pos : Pos} {Q : Flow → Shared → Prop} (hh : A.handled = none)
    (h : wpAny M A (eval e env) (Rais44 E) E s) : wpAny M A (exec (.Raise (some e) none pos) env) Q E s := by
  show wpAny M A (do standAt pos; raiseStmt env (some (do let v ← eval e env; standAt pos; pure v)) none) Q E s
  refine wpAny_bind (wpAny_standAt ?_)
  unfold raiseStmt
  dsimp only
  refine wpAny_bind (wpAny_bind (wpAny_mono h (fun v s₁ h₁ => wpAny_bind (wpAny_standAt (wpAny_pure ?_))) fun _ _ x => x))
  obtain ⟨a, od, t, rfl, hC, he, hE⟩ := h₁
  obtain ⟨hp, g, d, tk, os⟩ := s₁
  repeat (first | with_reducible refine wpAny_loadPart_at he ?_ | with_reducible refine wpAny_loadPart_at hC ?_ | (with_reducible refine wpAny_isSubtype_exc hC ?_; rw [bm_base]) | wp_step)
  exact wpAny_raiseNew_none hh hE
theorem rais44_of {w : World} {h₀ : Heap} {L e : Addr} {m : Str → Option Value} {news : List (Addr × Obj)} {E : Value → Shared → Prop} {s₁ : Shared} {od : Option Addr} {t : Addr} (X : (hd.heap_39 w.params).In h₀) (F : Fr h₀ L s₁.heap m) (N : News h₀ L s₁.heap news)
    (hm : (e, excAt od #[.ref t, .none, .none, .none, .bool false, .none]) ∈ news) (hE : E (.ref e) s₁) : Rais44 E (.ref e) s₁ := ⟨e, od, t, rfl, at44 (X.keeps F.keep), (N _ hm).1, hE⟩
set_option maxHeartbeats 8000000 in
theorem want_no {w : World} {dp un : Nat} {gd : Option (List Code)} {cn : Str} {cs : Scope} {a L : Addr} {ccd : Value} {outer : List Env} {A₀ : Around} {base h₀ : Heap} {m : Str → Option Value} {s : Shared} {Q E : Value → Shared → Prop} {news : List (Addr × Obj)} {mean : ExcName → Option Value} {mg mb : Str → Option Value} {msg : Str} {tk : Tok}
    (B : Below A₀ base outer h₀) (F : Fr h₀ L s.heap m) (X : (hd.heap_39 w.params).In h₀) (N : News h₀ L s.heap news) (T : Top hd.view_39 (looseW hd.view_39 []) mean mg mb h₀) (hk : cs.kind = .function) (hdp : dp + 5 < recursionLimit) (hun : un + 8 < cLine)
    (hE : ∀ g' h' tk' e, Fr h₀ L g' m → RaisedD w.params base g' (envX cn cs L a ccd [] :: outer) e msg news h' → g'.UpToSlots h' → E (.ref e) { s with heap := h', toks := tk' }) :
    wpAny (model PySem.Challenge.rw_xm0811_01.row.prog w) (ktrTop dp un gd cn cs L a ccd [] outer) (call (.ref 102) [.bool false, .str msg tk]) Q E s := by
  revert X
  k_fill
  intro X
  refine wpAny_call ?_
  k_dflt cell_enter
  (repeat' (first | (k_unfold; (try dsimp only)) | (k_end; wrow_close) | (first | (with_reducible (first | ((with_reducible show wpAny _ _ (exec (Stmt.Raise (some _) none _) _) _ _ _); first | (k_here; k_dflt (refine' raise44 ?qhk1 ?_; (case qhk1 => rfl); k_whole))) | ((with_reducible show wpAny _ _ (leaving _ _) _ _ _); first | (k_here; first | (refine' leave_firstD ?qhk1 ?qhk2 ?qhk3 ?qhk4 ?_; (case qhk3 => assumption); (case qhk4 => assumption); (case qhk1 => assumption); (case qhk2 => assumption); k_whole; intro h' R' U'; (try dsimp only at R' U' ⊢)) | (refine' leave_onD ?qhk1 ?qhk2 ?qhk3 ?qhk4 ?_; (case qhk3 => assumption); (case qhk2 => assumption); (case qhk1 => assumption); (case qhk4 => assumption); k_whole; intro h' R' U'; (try dsimp only at R' U' ⊢)))) | ((with_reducible show wpAny _ _ (call (Value.ref _) _) _ _ _); first | (k_here; (with_reducible show wpAny _ _ (call (Value.ref 44) [Value.str _ _]) _ _ _); k_dflt (refine' seg_call ?qhk1 ?qhkA ?qhk2 ?qhk3 ?qhk4 ?qhk5 ?qhk6 ?qhk7 ?_; (case qhkA => exact rfl); (case qhk1 => k_asm); (case qhk2 => k_asm); (case qhk3 => k_asm); (case qhk4 => k_asm); (case qhk5 => k_asm); (case qhk6 => first | exact rfl | assumption); (case qhk7 => ktr_room); k_whole); intro h' tk' tk2' e' t' dx' F' N' hne'; refine' rais44_of ?qhk1 ?qhk2 ?qhk3 ?qhk4 ?_; (case qhk1 => k_asm); (case qhk2 => exact F'); (case qhk3 => exact N'); (case qhk4 => exact .tail _ (.head _)))))) | ((with_reducible show wpAny _ _ (leaving _ _) _ _ _); (k_here; first | (refine' leave_firstD ?qhk1 ?qhk2 ?qhk3 ?qhk4 ?_; (case qhk3 => assumption); (case qhk4 => assumption); (case qhk1 => assumption); (case qhk2 => assumption); k_whole; intro h' R' U'; (try dsimp only at R' U' ⊢)) | (refine' leave_onD ?qhk1 ?qhk2 ?qhk3 ?qhk4 ?_; (case qhk3 => assumption); (case qhk2 => assumption); (case qhk1 => assumption); (case qhk4 => assumption); k_whole; intro h' R' U'; (try dsimp only at R' U' ⊢)))) | ((with_reducible show wpAny _ _ (call (Value.ref _) _) _ _ _); (k_here; (with_reducible show wpAny _ _ (call (Value.ref 44) [Value.str _ _]) _ _ _); k_dflt (refine' seg_call ?qhk1 ?qhkA ?qhk2 ?qhk3 ?qhk4 ?qhk5 ?qhk6 ?qhk7 ?_; (case qhkA => exact rfl); (case qhk1 => k_asm); (case qhk2 => k_asm); (case qhk3 => k_asm); (case qhk4 => k_asm); (case qhk5 => k_asm); (case qhk6 => first | exact rfl | assumption); (case qhk7 => ktr_room); k_whole); intro h' tk' tk2' e' t' dx' F' N' hne'; refine' rais44_of ?qhk1 ?qhk2 ?qhk3 ?qhk4 ?_; (case qhk1 => k_asm); (case qhk2 => exact F'); (case qhk3 => exact N'); (case qhk4 => exact .tail _ (.head _)))) | ((with_reducible show wpAny _ _ (exec (Stmt.Raise (some _) none _) _) _ _ _); (k_here; k_dflt (refine' raise44 ?qhk1 ?_; (case qhk1 => rfl); k_whole)))) | walk1 | (dsimp only; walk1) | (leave1; walk_say "STEP leave1"; try dsimp only) | fail "no step"))
  all_goals exact hE _ _ _ _ (by assumption) (by assumption) (by assumption)
set_option maxHeartbeats 8000000 in
theorem want_ok {w : World} {dp un : Nat} {gd : Option (List Code)} {cn : Str} {cs : Scope} {a L : Addr} {ccd : Value} {outer : List Env} {A₀ : Around} {base h₀ : Heap} {m : Str → Option Value} {s : Shared} {Q E : Value → Shared → Prop} {news : List (Addr × Obj)} {mean : ExcName → Option Value} {mg mb : Str → Option Value} {msg : Str} {tk : Tok}
    (B : Below A₀ base outer h₀) (F : Fr h₀ L s.heap m) (X : (hd.heap_39 w.params).In h₀) (N : News h₀ L s.heap news) (T : Top hd.view_39 (looseW hd.view_39 []) mean mg mb h₀) (hk : cs.kind = .function) (hdp : dp + 1 < recursionLimit) (hun : un + 8 < cLine)
    (hret : ∀ h' tk', Fr h₀ L h' m → News h₀ L h' news → Q .none { s with heap := h', toks := tk' }) :
    wpAny (model PySem.Challenge.rw_xm0811_01.row.prog w) (ktrTop dp un gd cn cs L a ccd [] outer) (call (.ref 102) [.bool true, .str msg tk]) Q E s := by
  revert X
  k_fill
  intro X
  refine wpAny_call ?_
  k_dflt cell_enter
  (repeat' (first | (k_unfold; (try dsimp only)) | (k_end; wrow_close) | (first | (with_reducible (first | ((with_reducible show wpAny _ _ (exec (Stmt.Raise (some _) none _) _) _ _ _); first | (k_here; k_dflt (refine' raise44 ?qhk1 ?_; (case qhk1 => rfl); k_whole))) | ((with_reducible show wpAny _ _ (leaving _ _) _ _ _); first | (k_here; first | (refine' leave_firstD ?qhk1 ?qhk2 ?qhk3 ?qhk4 ?_; (case qhk3 => assumption); (case qhk4 => assumption); (case qhk1 => assumption); (case qhk2 => assumption); k_whole; intro h' R' U'; (try dsimp only at R' U' ⊢)) | (refine' leave_onD ?qhk1 ?qhk2 ?qhk3 ?qhk4 ?_; (case qhk3 => assumption); (case qhk2 => assumption); (case qhk1 => assumption); (case qhk4 => assumption); k_whole; intro h' R' U'; (try dsimp only at R' U' ⊢)))) | ((with_reducible show wpAny _ _ (call (Value.ref _) _) _ _ _); first | (k_here; (with_reducible show wpAny _ _ (call (Value.ref 44) [Value.str _ _]) _ _ _); k_dflt (refine' seg_call ?qhk1 ?qhkA ?qhk2 ?qhk3 ?qhk4 ?qhk5 ?qhk6 ?qhk7 ?_; (case qhkA => exact rfl); (case qhk1 => k_asm); (case qhk2 => k_asm); (case qhk3 => k_asm); (case qhk4 => k_asm); (case qhk5 => k_asm); (case qhk6 => first | exact rfl | assumption); (case qhk7 => ktr_room); k_whole); intro h' tk' tk2' e' t' dx' F' N' hne'; refine' rais44_of ?qhk1 ?qhk2 ?qhk3 ?qhk4 ?_; (case qhk1 => k_asm); (case qhk2 => exact F'); (case qhk3 => exact N'); (case qhk4 => exact .tail _ (.head _)))))) | ((with_reducible show wpAny _ _ (leaving _ _) _ _ _); (k_here; first | (refine' leave_firstD ?qhk1 ?qhk2 ?qhk3 ?qhk4 ?_; (case qhk3 => assumption); (case qhk4 => assumption); (case qhk1 => assumption); (case qhk2 => assumption); k_whole; intro h' R' U'; (try dsimp only at R' U' ⊢)) | (refine' leave_onD ?qhk1 ?qhk2 ?qhk3 ?qhk4 ?_; (case qhk3 => assumption); (case qhk2 => assumption); (case qhk1 => assumption); (case qhk4 => assumption); k_whole; intro h' R' U'; (try dsimp only at R' U' ⊢)))) | ((with_reducible show wpAny _ _ (call (Value.ref _) _) _ _ _); (k_here; (with_reducible show wpAny _ _ (call (Value.ref 44) [Value.str _ _]) _ _ _); k_dflt (refine' seg_call ?qhk1 ?qhkA ?qhk2 ?qhk3 ?qhk4 ?qhk5 ?qhk6 ?qhk7 ?_; (case qhkA => exact rfl); (case qhk1 => k_asm); (case qhk2 => k_asm); (case qhk3 => k_asm); (case qhk4 => k_asm); (case qhk5 => k_asm); (case qhk6 => first | exact rfl | assumption); (case qhk7 => ktr_room); k_whole); intro h' tk' tk2' e' t' dx' F' N' hne'; refine' rais44_of ?qhk1 ?qhk2 ?qhk3 ?qhk4 ?_; (case qhk1 => k_asm); (case qhk2 => exact F'); (case qhk3 => exact N'); (case qhk4 => exact .tail _ (.head _)))) | ((with_reducible show wpAny _ _ (exec (Stmt.Raise (some _) none _) _) _ _ _); (k_here; k_dflt (refine' raise44 ?qhk1 ?_; (case qhk1 => rfl); k_whole)))) | walk1 | (dsimp only; walk1) | (leave1; walk_say "STEP leave1"; try dsimp only) | fail "no step"))
  all_goals exact hret _ _ (by assumption) (by assumption)
theorem want_call {w : World} {dp un : Nat} {gd : Option (List Code)} {cn : Str} {cs : Scope} {a L : Addr} {ccd : Value} {outer : List Env} {A₀ : Around} {base h₀ : Heap} {m : Str → Option Value} {s : Shared} {Q E : Value → Shared → Prop} {news : List (Addr × Obj)} {mean : ExcName → Option Value} {mg mb : Str → Option Value} {msg : Str} {tk : Tok} {b : Bool}
    (B : Below A₀ base outer h₀) (F : Fr h₀ L s.heap m) (X : (hd.heap_39 w.params).In h₀) (N : News h₀ L s.heap news) (T : Top hd.view_39 (looseW hd.view_39 []) mean mg mb h₀) (hk : cs.kind = .function) (hdp : dp + 5 < recursionLimit) (hun : un + 8 < cLine)
    (hret : b = true → ∀ h' tk', Fr h₀ L h' m → News h₀ L h' news → Q .none { s with heap := h', toks := tk' })
    (hE : b = false → ∀ g' h' tk' e, Fr h₀ L g' m → RaisedD w.params base g' (envX cn cs L a ccd [] :: outer) e msg news h' → g'.UpToSlots h' → E (.ref e) { s with heap := h', toks := tk' }) :
    wpAny (model PySem.Challenge.rw_xm0811_01.row.prog w) (ktrTop dp un gd cn cs L a ccd [] outer) (call (.ref 102) [.bool b, .str msg tk]) Q E s := by
  cases b
  · exact want_no B F X N T hk hdp hun (hE rfl)
  · exact want_ok B F X N T hk (by omega) hun (hret rfl)
end Mine
end
section
open PySem PySem.W PyProof.Rows PySem.Calls
namespace Mine
set_option maxRecDepth 100000
abbrev compDict (P : Params) (i a d q : Int) (t1 t2 t3 t4 t5 t6 t7 t8 : Tok) : Obj :=
  dictOf [⟨PyData.keyHash P "ident", .str "ident" t1, .int i t2⟩, ⟨PyData.keyHash P "across", .str "across" t3, .int a t4⟩, ⟨PyData.keyHash P "down", .str "down" t5, .int d t6⟩, ⟨PyData.keyHash P "quant", .str "quant" t7, .int q t8⟩] 4
/-- a ComponentHead with these four ints stands in the ledger at x -/
def CompAt (P : Params) (news : List (Addr × Obj)) (x : Addr) (c : Int × Int × Int × Int) : Prop :=
  ∃ dx t1 t2 t3 t4 t5 t6 t7 t8, (x, instObj 70 dx) ∈ news ∧ (dx, compDict P c.1 c.2.1 c.2.2.1 c.2.2.2 t1 t2 t3 t4 t5 t6 t7 t8) ∈ news
def compMsg (c : Int × Int × Int × Int) : Option Str :=
  if ¬ (0 ≤ c.1 ∧ c.1 ≤ 255) then some (PySem.Str.ofString "a component's name is a number of one octet")
  else if ¬ (1 ≤ c.2.1 ∧ c.2.1 ≤ 4) then some (PySem.Str.ofString "a sampling factor is from 1 to 4")
  else if ¬ (1 ≤ c.2.2.1 ∧ c.2.2.1 ≤ 4) then some (PySem.Str.ofString "a sampling factor is from 1 to 4")
  else if ¬ (0 ≤ c.2.2.2 ∧ c.2.2.2 ≤ 3) then some (PySem.Str.ofString "a slot is from 0 to 3")
  else none
theorem compMsg_0 {i a d q : Int} (h : 0 ≤ i ∧ i ≤ 255 ∧ 1 ≤ a ∧ a ≤ 4 ∧ 1 ≤ d ∧ d ≤ 4 ∧ 0 ≤ q ∧ q ≤ 3) : compMsg (i, a, d, q) = none := by
  unfold compMsg
  dsimp only
  rw [if_neg, if_neg, if_neg, if_neg] <;> omega
theorem compMsg_1 {i a d q : Int} (h : ¬ (0 ≤ i ∧ i ≤ 255)) : compMsg (i, a, d, q) = some (PySem.Str.ofString "a component's name is a number of one octet") := by
  unfold compMsg
  dsimp only
  rw [if_pos h]
theorem compMsg_2 {i a d q : Int} (h : (0 ≤ i ∧ i ≤ 255) ∧ ¬ (1 ≤ a ∧ a ≤ 4)) : compMsg (i, a, d, q) = some (PySem.Str.ofString "a sampling factor is from 1 to 4") := by
  unfold compMsg
  dsimp only
  rw [if_neg, if_pos h.2]
  omega
theorem compMsg_3 {i a d q : Int} (h : (0 ≤ i ∧ i ≤ 255) ∧ (1 ≤ a ∧ a ≤ 4) ∧ ¬ (1 ≤ d ∧ d ≤ 4)) : compMsg (i, a, d, q) = some (PySem.Str.ofString "a sampling factor is from 1 to 4") := by
  unfold compMsg
  dsimp only
  rw [if_neg, if_neg, if_pos h.2.2] <;> omega
theorem compMsg_4 {i a d q : Int} (h : (0 ≤ i ∧ i ≤ 255) ∧ (1 ≤ a ∧ a ≤ 4) ∧ (1 ≤ d ∧ d ≤ 4) ∧ ¬ (0 ≤ q ∧ q ≤ 3)) : compMsg (i, a, d, q) = some (PySem.Str.ofString "a slot is from 0 to 3") := by
  unfold compMsg
  dsimp only
  rw [if_neg, if_neg, if_neg, if_pos h.2.2.2] <;> omega
set_option maxHeartbeats 8000000 in
theorem comp_call {w : World} {dp un : Nat} {gd : Option (List Code)} {cn : Str} {cs : Scope} {a L : Addr} {ccd : Value} {outer : List Env} {A₀ : Around} {base h₀ : Heap} {m : Str → Option Value} {s : Shared} {Q E : Value → Shared → Prop} {news : List (Addr × Obj)} {mean : ExcName → Option Value} {mg mb : Str → Option Value} {x : Addr} {c : Int × Int × Int × Int}
    (B : Below A₀ base outer h₀) (F : Fr h₀ L s.heap m) (X : (hd.heap_39 w.params).In h₀) (N : News h₀ L s.heap news) (T : Top hd.view_39 (looseW hd.view_39 []) mean mg mb h₀) (hk : cs.kind = .function) (hdp : dp + 8 < recursionLimit) (hun : un + 24 < cLine)
    (hc : CompAt w.params news x c)
    (hret : compMsg c = none → ∀ h' tk', Fr h₀ L h' m → News h₀ L h' news → Q .none { s with heap := h', toks := tk' })
    (hE : ∀ msg, compMsg c = some msg → ∀ g' h' tk' e, Fr h₀ L g' m → RaisedD w.params base g' (envX cn cs L a ccd [] :: outer) e msg news h' → g'.UpToSlots h' → E (.ref e) { s with heap := h', toks := tk' }) :
    wpAny (model PySem.Challenge.rw_xm0811_01.row.prog w) (ktrTop dp un gd cn cs L a ccd [] outer) (call (.ref 130) [.ref x]) Q E s := by
  revert X
  k_fill
  intro X
  obtain ⟨i, ac, d, q⟩ := c
  obtain ⟨dx, t1, t2, t3, t4, t5, t6, t7, t8, hx, hdx⟩ := hc
  dsimp only at hdx
  refine wpAny_call ?_
  k_dflt cell_enter
  (repeat' (first | (k_unfold; (try dsimp only)) | (k_end; wrow_close) | (first | (with_reducible (first | ((with_reducible show wpAny _ _ (leaving _ _) _ _ _); first | (k_here; (refine' leave_onD ?qhk1 ?qhk2 ?qhk3 ?qhk4 ?_; (case qhk3 => assumption); (case qhk2 => assumption); (case qhk1 => assumption); (case qhk4 => assumption); k_whole; intro h' R' U'; (try dsimp only at R' U' ⊢)))) | ((with_reducible show wpAny _ _ (call (Value.ref _) _) _ _ _); first | (k_here; (with_reducible show wpAny _ _ (call (Value.ref 102) [Value.bool _, Value.str _ _]) _ _ _); k_dflt (refine' want_call ?qhk1 ?qhk2 ?qhk3 ?qhk4 ?qhk5 ?qhk6 ?qhk7 ?qhk8 ?_ ?_; (case qhk1 => k_asm); (case qhk2 => k_asm); (case qhk3 => k_asm); (case qhk4 => k_asm); (case qhk5 => k_asm); (case qhk6 => first | exact rfl | assumption); (case qhk7 => ktr_room); (case qhk8 => ktr_units); k_whole); all_goals (intro hb; first | (exfalso; ((simp only [decide_eq_true_eq, decide_eq_false_iff_not] at hb) <;> omega); done) | ((try simp only [decide_eq_true_eq, decide_eq_false_iff_not] at hb); first | intro g' h' tk' e' F' R' U' | (intro h' tk' F' N'; (try k_sweep)))))))) | ((with_reducible show wpAny _ _ (leaving _ _) _ _ _); (k_here; (refine' leave_onD ?qhk1 ?qhk2 ?qhk3 ?qhk4 ?_; (case qhk3 => assumption); (case qhk2 => assumption); (case qhk1 => assumption); (case qhk4 => assumption); k_whole; intro h' R' U'; (try dsimp only at R' U' ⊢)))) | ((with_reducible show wpAny _ _ (call (Value.ref _) _) _ _ _); (k_here; (with_reducible show wpAny _ _ (call (Value.ref 102) [Value.bool _, Value.str _ _]) _ _ _); k_dflt (refine' want_call ?qhk1 ?qhk2 ?qhk3 ?qhk4 ?qhk5 ?qhk6 ?qhk7 ?qhk8 ?_ ?_; (case qhk1 => k_asm); (case qhk2 => k_asm); (case qhk3 => k_asm); (case qhk4 => k_asm); (case qhk5 => k_asm); (case qhk6 => first | exact rfl | assumption); (case qhk7 => ktr_room); (case qhk8 => ktr_units); k_whole); all_goals (intro hb; first | (exfalso; ((simp only [decide_eq_true_eq, decide_eq_false_iff_not] at hb) <;> omega); done) | ((try simp only [decide_eq_true_eq, decide_eq_false_iff_not] at hb); first | intro g' h' tk' e' F' R' U' | (intro h' tk' F' N'; (try k_sweep))))))) | walk1 | (dsimp only; walk1) | (leave1; walk_say "STEP leave1"; try dsimp only) | fail "no step"))
  all_goals first
    | (refine' hret ?c _ _ ?f ?n; (case f => assumption); (case n => assumption); (case c => exact compMsg_0 (by omega)))
    | (refine' hE _ ?c _ _ _ _ ?f ?r ?u; (case f => assumption); (case r => assumption); (case u => assumption); (case c => first | exact compMsg_1 (by omega) | exact compMsg_2 (by omega) | exact compMsg_3 (by omega) | exact compMsg_4 (by omega)))
end Mine
end
local macro_rules | `(tactic| k_room) => `(tactic| ktr_room)
section
open PySem PySem.W PyProof.Rows PySem.Calls
namespace Mine
set_option maxRecDepth 100000
def isFrameB (code : Int) : Bool := decide (192 ≤ code ∧ code ≤ 207 ∧ code ≠ 196 ∧ code ≠ 200 ∧ code ≠ 204)
def isPrecB (code p : Int) : Bool := decide ((code % 4 = 3 ∧ 2 ≤ p ∧ p ≤ 16) ∨ (code % 4 ≠ 3 ∧ (p = 8 ∨ (p = 12 ∧ code ≠ 192))))
theorem fm1 (code : Int) (h : 192 ≤ code) (h2 : code ≤ 207) : (![196, 200, 204].any fun x => x == code) = isFrameB code := by
  unfold isFrameB
  by_cases h3 : code = 196
  · subst h3; decide
  by_cases h4 : code = 200
  · subst h4; decide
  by_cases h5 : code = 204
  · subst h5; decide
  rw [decide_eq_true (by omega)]
  simp only [List.any_cons, List.any_nil, beq_eq_false_iff_ne.mpr (Ne.symm h3), beq_eq_false_iff_ne.mpr (Ne.symm h4), beq_eq_false_iff_ne.mpr (Ne.symm h5)]
  rfl
set_option maxHeartbeats 8000000 in
theorem isframe_call {w : World} {dp un : Nat} {gd : Option (List Code)} {cn : Str} {cs : Scope} {a L : Addr} {ccd : Value} {outer : List Env} {A₀ : Around} {base h₀ : Heap} {m : Str → Option Value} {s : Shared} {Q E : Value → Shared → Prop} {news : List (Addr × Obj)} {mean : ExcName → Option Value} {mg mb : Str → Option Value} {code : Int} {t1 : Tok}
    (B : Below A₀ base outer h₀) (F : Fr h₀ L s.heap m) (X : (hd.heap_39 w.params).In h₀) (N : News h₀ L s.heap news) (T : Top hd.view_39 (looseW hd.view_39 []) mean mg mb h₀) (hk : cs.kind = .function) (hdp : dp + 8 < recursionLimit) (hun : un + 24 < cLine)
    (hret : ∀ (t : Tok) h' tk', Fr h₀ L h' m → News h₀ L h' news → Q (.bool (isFrameB code)) { s with heap := h', toks := tk' }) :
    wpAny (model PySem.Challenge.rw_xm0811_01.row.prog w) (ktrTop dp un gd cn cs L a ccd [] outer) (call (.ref 53) [.int code t1]) Q E s := by
  revert X
  k_fill
  intro X
  refine wpAny_call ?_
  k_dflt cell_enter
  k_steps
  all_goals (refine cb_retB (Q := Q) hret ?_ (by assumption) (cb_drop (by assumption) (by intro p hp; repeat (first | exact hp | apply List.mem_cons_of_mem))))
  · exact fm1 code (by assumption) (by assumption)
  · unfold isFrameB; rw [decide_eq_false (by assumption), decide_eq_false (by omega)]
  · unfold isFrameB; rw [decide_eq_false (by assumption), decide_eq_false (by omega)]
theorem fmod4 (code : Int) : code.fmod 4 = code % 4 := Int.fmod_eq_emod_of_nonneg code (by omega)
theorem pr1 {code p : Int} (h : code.fmod 4 = 3) (h2 : 2 ≤ p) : decide (p ≤ 16) = isPrecB code p := by
  rw [fmod4] at h
  exact decide_eq_decide.mpr (by omega)
theorem pr2 {code p : Int} (h : code.fmod 4 = 3) (h2 : ¬ 2 ≤ p) : decide (2 ≤ p) = isPrecB code p := by
  rw [fmod4] at h
  exact decide_eq_decide.mpr (by omega)
theorem pr3 {code p : Int} (h : code.fmod 4 ≠ 3) (h2 : p = 8) : (p == 8) = isPrecB code p := by
  rw [fmod4] at h
  subst h2
  exact (decide_eq_true (p := _) (Or.inr ⟨h, Or.inl rfl⟩)).symm
theorem pr4 {code p : Int} (h : code.fmod 4 ≠ 3) (h2 : p = 12) : (code != 192) = isPrecB code p := by
  rw [fmod4] at h
  subst h2
  by_cases q : code = 192
  · subst q; rfl
  · rw [show (code != 192) = true from bne_iff_ne.mpr q]
    exact (decide_eq_true (p := _) (Or.inr ⟨h, Or.inr ⟨rfl, q⟩⟩)).symm
theorem pr5 {code p : Int} (h : code.fmod 4 ≠ 3) (h2 : p ≠ 8) (h3 : p ≠ 12) : (p == 12) = isPrecB code p := by
  rw [fmod4] at h
  rw [beq_eq_false_iff_ne.mpr h3]
  exact (decide_eq_false (p := _) (by omega)).symm
set_option maxHeartbeats 8000000 in
theorem isprec_call {w : World} {dp un : Nat} {gd : Option (List Code)} {cn : Str} {cs : Scope} {a L : Addr} {ccd : Value} {outer : List Env} {A₀ : Around} {base h₀ : Heap} {m : Str → Option Value} {s : Shared} {Q E : Value → Shared → Prop} {news : List (Addr × Obj)} {mean : ExcName → Option Value} {mg mb : Str → Option Value} {code p : Int} {t1 t2 : Tok}
    (B : Below A₀ base outer h₀) (F : Fr h₀ L s.heap m) (X : (hd.heap_39 w.params).In h₀) (N : News h₀ L s.heap news) (T : Top hd.view_39 (looseW hd.view_39 []) mean mg mb h₀) (hk : cs.kind = .function) (hdp : dp + 8 < recursionLimit) (hun : un + 24 < cLine)
    (hret : ∀ (t : Tok) h' tk', Fr h₀ L h' m → News h₀ L h' news → Q (.bool (isPrecB code p)) { s with heap := h', toks := tk' }) :
    wpAny (model PySem.Challenge.rw_xm0811_01.row.prog w) (ktrTop dp un gd cn cs L a ccd [] outer) (call (.ref 116) [.int code t1, .int p t2]) Q E s := by
  revert X
  k_fill
  intro X
  refine wpAny_call ?_
  k_dflt cell_enter
  k_steps
  all_goals (refine cb_retB (Q := Q) hret ?_ (by assumption) (by assumption))
  · exact pr1 (by assumption) (by assumption)
  · exact pr2 (by assumption) (by assumption)
  · exact pr3 (by assumption) (by assumption)
  · exact pr4 (by assumption) (by assumption)
  · exact pr5 (by assumption) (by assumption) (by assumption)
end Mine
end
section
open PySem PySem.W PyProof.Rows PySem.Calls
namespace Mine
set_option maxRecDepth 100000
theorem ne_allLt {d : Addr} : ∀ {l : List (Addr × Obj)}, AllLt d l → ∀ p ∈ l, p.1 ≠ d
  | [], _, _, h => nomatch h
  | _ :: _, x, p, h => by
    rcases List.mem_cons.mp h with rfl | h
    · exact Nat.ne_of_lt x.1
    · exact ne_allLt x.2 p h
theorem lt_allLt {d x : Addr} (h : d < x) : ∀ {l : List (Addr × Obj)}, AllLt d l → AllLt x l
  | [], _ => trivial
  | _ :: _, y => ⟨Nat.lt_trans y.1 h, lt_allLt h y.2⟩
local macro_rules | `(tactic| k_all) => `(tactic| (refine ne_allLt ?_; first | assumption | exact And.right (by assumption) | exact And.right (And.right (by assumption)) | exact And.right (And.right (And.right (by assumption)))))
set_option maxHeartbeats 8000000 in
theorem mkcomp_call {w : World} {dp un : Nat} {gd : Option (List Code)} {cn : Str} {cs : Scope} {a L : Addr} {ccd : Value} {outer : List Env} {A₀ : Around} {base h₀ : Heap} {m : Str → Option Value} {s : Shared} {Q E : Value → Shared → Prop} {news : List (Addr × Obj)} {mean : ExcName → Option Value} {mg mb : Str → Option Value} {i ac d q : Int} {t1 t2 t3 t4 : Tok}
    (B : Below A₀ base outer h₀) (F : Fr h₀ L s.heap m) (X : (hd.heap_39 w.params).In h₀) (N : News h₀ L s.heap news) (T : Top hd.view_39 (looseW hd.view_39 []) mean mg mb h₀) (hk : cs.kind = .function) (hdp : dp + 8 < recursionLimit) (hun : un + 24 < cLine)
    (hret : ∀ h' tk' x dx k1 k2 k3 k4, Fr h₀ L h' m → News h₀ L h' ((x, instObj 70 dx) :: (dx, compDict w.params i ac d q k1 t1 k2 t2 k3 t3 k4 t4) :: news) → (∀ p ∈ news, p.1 < dx) → dx < x → Q (.ref x) { s with heap := h', toks := tk' }) :
    wpAny (model PySem.Challenge.rw_xm0811_01.row.prog w) (ktrTop dp un gd cn cs L a ccd [] outer) (call (.ref 70) [.int i t1, .int ac t2, .int d t3, .int q t4]) Q E s := by
  revert X
  k_fill
  intro X
  k_dflt (refine' call_cls ?k1 ?k2 ?k3 ?k4 ?k5 ?k6 ?_; (case k1 => k_asm); (case k2 => k_asm); (case k3 => k_asm); (case k4 => k_is); (case k5 => k_is); (case k6 => k_is); k_whole; intro x' d' h' F' N' l1 l2; (have l1' := l1); (try k_lt l1); (try k_lt2 l2); (try k_sweep))
  k_dflt cell_enter
  k_steps
  all_goals exact hret _ _ _ _ _ _ _ _ (by assumption) (by assumption) (by assumption) (by assumption)
abbrev headDict (P : Params) (code prec h w : Int) (l : Addr) (t1 t2 t3 t4 t5 t6 t7 t8 t9 : Tok) : Obj :=
  dictOf [⟨PyData.keyHash P "code", .str "code" t1, .int code t2⟩, ⟨PyData.keyHash P "precision", .str "precision" t3, .int prec t4⟩, ⟨PyData.keyHash P "height", .str "height" t5, .int h t6⟩, ⟨PyData.keyHash P "width", .str "width" t7, .int w t8⟩, ⟨PyData.keyHash P "components", .str "components" t9, .ref l⟩] 5
set_option maxHeartbeats 8000000 in
theorem mkhead_call {w : World} {dp un : Nat} {gd : Option (List Code)} {cn : Str} {cs : Scope} {a L : Addr} {ccd : Value} {outer : List Env} {A₀ : Around} {base h₀ : Heap} {m : Str → Option Value} {s : Shared} {Q E : Value → Shared → Prop} {news : List (Addr × Obj)} {mean : ExcName → Option Value} {mg mb : Str → Option Value} {code prec hi wi : Int} {l : Addr} {t1 t2 t3 t4 : Tok}
    (B : Below A₀ base outer h₀) (F : Fr h₀ L s.heap m) (X : (hd.heap_39 w.params).In h₀) (N : News h₀ L s.heap news) (T : Top hd.view_39 (looseW hd.view_39 []) mean mg mb h₀) (hk : cs.kind = .function) (hdp : dp + 8 < recursionLimit) (hun : un + 24 < cLine)
    (hret : ∀ h' tk' x dx k1 k2 k3 k4 k5, Fr h₀ L h' m → News h₀ L h' ((x, instObj 91 dx) :: (dx, headDict w.params code prec hi wi l k1 t1 k2 t2 k3 t3 k4 t4 k5) :: news) → (∀ p ∈ news, p.1 < dx) → dx < x → Q (.ref x) { s with heap := h', toks := tk' }) :
    wpAny (model PySem.Challenge.rw_xm0811_01.row.prog w) (ktrTop dp un gd cn cs L a ccd [] outer) (call (.ref 91) [.int code t1, .int prec t2, .int hi t3, .int wi t4, .ref l]) Q E s := by
  revert X
  k_fill
  intro X
  k_dflt (refine' call_cls ?k1 ?k2 ?k3 ?k4 ?k5 ?k6 ?_; (case k1 => k_asm); (case k2 => k_asm); (case k3 => k_asm); (case k4 => k_is); (case k5 => k_is); (case k6 => k_is); k_whole; intro x' d' h' F' N' l1 l2; (have l1' := l1); (try k_lt l1); (try k_lt2 l2); (try k_sweep))
  k_dflt cell_enter
  k_steps
  all_goals exact hret _ _ _ _ _ _ _ _ _ (by assumption) (by assumption) (by assumption) (by assumption)
end Mine
end
section
open PySem PySem.W PyProof.Rows PySem.Calls
namespace Mine
set_option maxRecDepth 100000
def unlikeB (ns : List Int) : Bool := decide ns.Nodup
/-- what stood beside the ledger at hand stands behind the call -/
theorem lite_back {h₀ H g h' : Heap} {L L' : Addr} {m' : Str → Option Value} {news small small' : List (Addr × Obj)} (N : News h₀ L H news) (hG : GSub H g (small.map (·.1))) (F' : Fr g L' h' m') (Ns : News h₀ L h' small') (N0 : News h₀ L H small) (hs : ∀ p ∈ small, p ∈ small') : News h₀ L h' news := fun p hp => by
  refine ⟨?_, (N p hp).2⟩
  by_cases q : p.1 ∈ small.map (·.1)
  · obtain ⟨r, hr, e⟩ := List.mem_map.mp q
    have a := (N p hp).1
    rw [← e, (N0 r hr).1] at a
    rw [← e, ← Option.some.inj a]
    exact (Ns r (hs r hr)).1
  · exact F'.keep _ _ (hG _ _ (N p hp).1 q)
theorem news_one {h₀ h : Heap} {L : Addr} {news : List (Addr × Obj)} {p : Addr × Obj} (N : News h₀ L h news) (hp : p ∈ news) : News h₀ L h [p] := fun q hq => by
  rw [List.mem_singleton.mp hq]; exact N p hp
theorem unl_f (ns : List Int) (k : Nat) (hk : k < ns.length) (h : ((ns.take k).any fun x => x == ns.getD k 0) = true) : unlikeB ns = false := by
  refine decide_eq_false fun q => ?_
  obtain ⟨x, hx, e⟩ := List.any_eq_true.mp h
  obtain ⟨i, hi, rfl⟩ := List.mem_iff_getElem.mp hx
  have e' := beq_iff_eq.mp e
  rw [List.length_take] at hi
  have hlt : i < k := by omega
  rw [List.getElem_take, List.getD_eq_getElem?_getD, List.getElem?_eq_getElem hk, Option.getD_some] at e'
  exact (List.pairwise_iff_getElem.mp q) i k (by omega) hk hlt e'
theorem unl_f' {ns pre : List Int} {z : Nat} (h : (pre.any fun x => x == ns.getD z 0) = true) (hz : z < ns.length) (hp : pre = ns.take z) : unlikeB ns = false := by
  subst hp
  exact unl_f ns z hz h
theorem unl_t (ns : List Int) (h : ∀ k, k < ns.length → ((ns.take k).any fun x => x == ns.getD k 0) = false) : unlikeB ns = true := by
  refine decide_eq_true (List.pairwise_iff_getElem.mpr fun i j hi hj hij => ?_)
  have q := List.any_eq_false.mp (h j hj) ns[i] (List.mem_iff_getElem.mpr ⟨i, by rw [List.length_take]; omega, by rw [List.getElem_take]⟩)
  rw [List.getD_eq_getElem?_getD, List.getElem?_eq_getElem hj, Option.getD_some] at q
  exact fun e => q (beq_iff_eq.mpr e)
theorem unl_t1 {i1 : Int}   : unlikeB [i1] = true := by
  skip
  refine unl_t [i1] fun k hk => ?_
  have hk' : k < 1 := hk
  obtain rfl : k = 0 := by omega
  all_goals first | rfl | assumption
set_option maxHeartbeats 8000000 in
theorem unlike_call1 {w : World} {dp un : Nat} {gd : Option (List Code)} {cn : Str} {cs : Scope} {a L : Addr} {ccd : Value} {outer : List Env} {A₀ : Around} {base h₀ : Heap} {m : Str → Option Value} {s : Shared} {Q E : Value → Shared → Prop} {news : List (Addr × Obj)} {mean : ExcName → Option Value} {mg mb : Str → Option Value} {l : Addr} {i1 : Int} {t1 : Tok} {c : Nat}
    (B : Below A₀ base outer h₀) (F : Fr h₀ L s.heap m) (X : (hd.heap_39 w.params).In h₀) (N0 : News h₀ L s.heap news) (T : Top hd.view_39 (looseW hd.view_39 []) mean mg mb h₀) (hk : cs.kind = .function) (hdp : dp + 8 < recursionLimit) (hun : un + 24 < cLine) (hl : (l, listOf #[.int i1 t1] c) ∈ news)
    (hret : ∀ h' tk', Fr h₀ L h' m → News h₀ L h' news → Q (.bool (unlikeB [i1])) { s with heap := h', toks := tk' }) :
    wpAny (model PySem.Challenge.rw_xm0811_01.row.prog w) (ktrTop dp un gd cn cs L a ccd [] outer) (call (.ref 123) [.ref l]) Q E s := by
  revert X
  k_fill
  intro X
  have N : News h₀ L s.heap [(l, listOf #[.int i1 t1] c)] := news_one N0 hl
  refine wpAny_call ?_
  k_dflt (refine' code_defG ?k1 ?k2 ?k3 ?k4 ?k5 ?kA ?kF ?kK ?k6 ?k7 ?k8 ?k9 ?kB ?_ ?c2 ?c3 ?c4 ?c5; (case kA => exact rfl); (case kF => exact rfl); (case kK => assumption); (case k1 => exact B); (case k2 => exact F); (case k3 => exact X); (case k4 => exact N); (case k5 => exact T); (case k6 => k_is); (case k7 => k_is); (case k8 => ktr_room); (case k9 => exact BindsTo.of_eq rfl); (case c5 => decide); (case kB => exact locs rfl); (case c2 => exact rfl); (case c3 => exact rfl); (case c4 => exact rfl); k_whole; intro g' L' h' FG' F' N' B' X' T' hG; (try dsimp only); (try k_lift B'); (try k_fold))
  have hret' : ∀ (b : Bool) h' tk' L'' m' small', unlikeB [i1] = b → Fr h₀ L h' m → Fr g' L'' h' m' → News h₀ L h' small' → (∀ p ∈ [(l, listOf #[.int i1 t1] c)], p ∈ small') → Q (.bool b) { s with heap := h', toks := tk' } := fun b h' tk' L'' m' small' e F' FF Ns hs => e ▸ hret h' tk' F' (lite_back N0 hG FF Ns N hs)
  clear hret N0 hl
  (repeat' (first | (k_unfold; (try dsimp only)) | (k_end; wrow_close) | ((first | with_reducible show wpAny _ _ (eval (PySem.Expr.Call _ _ _ _) _) _ _ _ | with_reducible show wpAny _ _ (eval (PySem.Expr.List _ _) _) _ _ _ | with_reducible show wpAny _ _ (eval (PySem.Expr.Tuple _ _ _) _) _ _ _ | with_reducible show wpAny _ _ (eval (PySem.Expr.Subscript _ _ _) _) _ _ _ | with_reducible show wpAny _ _ (eval (PySem.Expr.BinOp _ _ _ _) _) _ _ _); refine qfold ?_; intro q9; walk1) | walk1 | (dsimp only; walk1) | (leave1; walk_say "STEP leave1"; try dsimp only) | fail "no step"))
  all_goals (
    refine' hret' _ _ _ _ _ _ ?qe ?qf ?qg ?qn ?qm
    (case qf => assumption)
    (case qg => assumption)
    (case qn => assumption)
    (case qm => (intro p hp; rw [List.mem_singleton.mp hp]; k_mem))
    case qe => first
      | exact unl_t1  )
theorem unl_t2 {i1 i2 : Int} {z1 : Nat} (h1 : ([i1].any fun x => x == [i1, i2].getD z1 0) = false) (e1 : z1 = 1) : unlikeB [i1, i2] = true := by
  subst e1
  refine unl_t [i1, i2] fun k hk => ?_
  have hk' : k < 2 := hk
  obtain rfl | rfl : k = 0 ∨ k = 1 := by omega
  all_goals first | rfl | assumption
set_option maxHeartbeats 8000000 in
theorem unlike_call2 {w : World} {dp un : Nat} {gd : Option (List Code)} {cn : Str} {cs : Scope} {a L : Addr} {ccd : Value} {outer : List Env} {A₀ : Around} {base h₀ : Heap} {m : Str → Option Value} {s : Shared} {Q E : Value → Shared → Prop} {news : List (Addr × Obj)} {mean : ExcName → Option Value} {mg mb : Str → Option Value} {l : Addr} {i1 i2 : Int} {t1 t2 : Tok} {c : Nat}
    (B : Below A₀ base outer h₀) (F : Fr h₀ L s.heap m) (X : (hd.heap_39 w.params).In h₀) (N0 : News h₀ L s.heap news) (T : Top hd.view_39 (looseW hd.view_39 []) mean mg mb h₀) (hk : cs.kind = .function) (hdp : dp + 8 < recursionLimit) (hun : un + 24 < cLine) (hl : (l, listOf #[.int i1 t1, .int i2 t2] c) ∈ news)
    (hret : ∀ h' tk', Fr h₀ L h' m → News h₀ L h' news → Q (.bool (unlikeB [i1, i2])) { s with heap := h', toks := tk' }) :
    wpAny (model PySem.Challenge.rw_xm0811_01.row.prog w) (ktrTop dp un gd cn cs L a ccd [] outer) (call (.ref 123) [.ref l]) Q E s := by
  revert X
  k_fill
  intro X
  have N : News h₀ L s.heap [(l, listOf #[.int i1 t1, .int i2 t2] c)] := news_one N0 hl
  refine wpAny_call ?_
  k_dflt (refine' code_defG ?k1 ?k2 ?k3 ?k4 ?k5 ?kA ?kF ?kK ?k6 ?k7 ?k8 ?k9 ?kB ?_ ?c2 ?c3 ?c4 ?c5; (case kA => exact rfl); (case kF => exact rfl); (case kK => assumption); (case k1 => exact B); (case k2 => exact F); (case k3 => exact X); (case k4 => exact N); (case k5 => exact T); (case k6 => k_is); (case k7 => k_is); (case k8 => ktr_room); (case k9 => exact BindsTo.of_eq rfl); (case c5 => decide); (case kB => exact locs rfl); (case c2 => exact rfl); (case c3 => exact rfl); (case c4 => exact rfl); k_whole; intro g' L' h' FG' F' N' B' X' T' hG; (try dsimp only); (try k_lift B'); (try k_fold))
  have hret' : ∀ (b : Bool) h' tk' L'' m' small', unlikeB [i1, i2] = b → Fr h₀ L h' m → Fr g' L'' h' m' → News h₀ L h' small' → (∀ p ∈ [(l, listOf #[.int i1 t1, .int i2 t2] c)], p ∈ small') → Q (.bool b) { s with heap := h', toks := tk' } := fun b h' tk' L'' m' small' e F' FF Ns hs => e ▸ hret h' tk' F' (lite_back N0 hG FF Ns N hs)
  clear hret N0 hl
  (repeat' (first | (k_unfold; (try dsimp only)) | (k_end; wrow_close) | ((first | with_reducible show wpAny _ _ (eval (PySem.Expr.Call _ _ _ _) _) _ _ _ | with_reducible show wpAny _ _ (eval (PySem.Expr.List _ _) _) _ _ _ | with_reducible show wpAny _ _ (eval (PySem.Expr.Tuple _ _ _) _) _ _ _ | with_reducible show wpAny _ _ (eval (PySem.Expr.Subscript _ _ _) _) _ _ _ | with_reducible show wpAny _ _ (eval (PySem.Expr.BinOp _ _ _ _) _) _ _ _); refine qfold ?_; intro q9; walk1) | walk1 | (dsimp only; walk1) | (leave1; walk_say "STEP leave1"; try dsimp only) | fail "no step"))
  all_goals (
    refine' hret' _ _ _ _ _ _ ?qe ?qf ?qg ?qn ?qm
    (case qf => assumption)
    (case qg => assumption)
    (case qn => assumption)
    (case qm => (intro p hp; rw [List.mem_singleton.mp hp]; k_mem))
    case qe => first
      | exact unl_f' (by assumption) (of_decide_eq_true (by rfl)) (by rfl)
      | exact unl_t2 (by assumption) (by rfl))
theorem unl_t3 {i1 i2 i3 : Int} {z1 z2 : Nat} (h1 : ([i1].any fun x => x == [i1, i2, i3].getD z1 0) = false) (h2 : ([i1, i2].any fun x => x == [i1, i2, i3].getD z2 0) = false) (e1 : z1 = 1) (e2 : z2 = 2) : unlikeB [i1, i2, i3] = true := by
  subst e1; subst e2
  refine unl_t [i1, i2, i3] fun k hk => ?_
  have hk' : k < 3 := hk
  obtain rfl | rfl | rfl : k = 0 ∨ k = 1 ∨ k = 2 := by omega
  all_goals first | rfl | assumption
set_option maxHeartbeats 8000000 in
theorem unlike_call3 {w : World} {dp un : Nat} {gd : Option (List Code)} {cn : Str} {cs : Scope} {a L : Addr} {ccd : Value} {outer : List Env} {A₀ : Around} {base h₀ : Heap} {m : Str → Option Value} {s : Shared} {Q E : Value → Shared → Prop} {news : List (Addr × Obj)} {mean : ExcName → Option Value} {mg mb : Str → Option Value} {l : Addr} {i1 i2 i3 : Int} {t1 t2 t3 : Tok} {c : Nat}
    (B : Below A₀ base outer h₀) (F : Fr h₀ L s.heap m) (X : (hd.heap_39 w.params).In h₀) (N0 : News h₀ L s.heap news) (T : Top hd.view_39 (looseW hd.view_39 []) mean mg mb h₀) (hk : cs.kind = .function) (hdp : dp + 8 < recursionLimit) (hun : un + 24 < cLine) (hl : (l, listOf #[.int i1 t1, .int i2 t2, .int i3 t3] c) ∈ news)
    (hret : ∀ h' tk', Fr h₀ L h' m → News h₀ L h' news → Q (.bool (unlikeB [i1, i2, i3])) { s with heap := h', toks := tk' }) :
    wpAny (model PySem.Challenge.rw_xm0811_01.row.prog w) (ktrTop dp un gd cn cs L a ccd [] outer) (call (.ref 123) [.ref l]) Q E s := by
  revert X
  k_fill
  intro X
  have N : News h₀ L s.heap [(l, listOf #[.int i1 t1, .int i2 t2, .int i3 t3] c)] := news_one N0 hl
  refine wpAny_call ?_
  k_dflt (refine' code_defG ?k1 ?k2 ?k3 ?k4 ?k5 ?kA ?kF ?kK ?k6 ?k7 ?k8 ?k9 ?kB ?_ ?c2 ?c3 ?c4 ?c5; (case kA => exact rfl); (case kF => exact rfl); (case kK => assumption); (case k1 => exact B); (case k2 => exact F); (case k3 => exact X); (case k4 => exact N); (case k5 => exact T); (case k6 => k_is); (case k7 => k_is); (case k8 => ktr_room); (case k9 => exact BindsTo.of_eq rfl); (case c5 => decide); (case kB => exact locs rfl); (case c2 => exact rfl); (case c3 => exact rfl); (case c4 => exact rfl); k_whole; intro g' L' h' FG' F' N' B' X' T' hG; (try dsimp only); (try k_lift B'); (try k_fold))
  have hret' : ∀ (b : Bool) h' tk' L'' m' small', unlikeB [i1, i2, i3] = b → Fr h₀ L h' m → Fr g' L'' h' m' → News h₀ L h' small' → (∀ p ∈ [(l, listOf #[.int i1 t1, .int i2 t2, .int i3 t3] c)], p ∈ small') → Q (.bool b) { s with heap := h', toks := tk' } := fun b h' tk' L'' m' small' e F' FF Ns hs => e ▸ hret h' tk' F' (lite_back N0 hG FF Ns N hs)
  clear hret N0 hl
  (repeat' (first | (k_unfold; (try dsimp only)) | (k_end; wrow_close) | ((first | with_reducible show wpAny _ _ (eval (PySem.Expr.Call _ _ _ _) _) _ _ _ | with_reducible show wpAny _ _ (eval (PySem.Expr.List _ _) _) _ _ _ | with_reducible show wpAny _ _ (eval (PySem.Expr.Tuple _ _ _) _) _ _ _ | with_reducible show wpAny _ _ (eval (PySem.Expr.Subscript _ _ _) _) _ _ _ | with_reducible show wpAny _ _ (eval (PySem.Expr.BinOp _ _ _ _) _) _ _ _); refine qfold ?_; intro q9; walk1) | walk1 | (dsimp only; walk1) | (leave1; walk_say "STEP leave1"; try dsimp only) | fail "no step"))
  all_goals (
    refine' hret' _ _ _ _ _ _ ?qe ?qf ?qg ?qn ?qm
    (case qf => assumption)
    (case qg => assumption)
    (case qn => assumption)
    (case qm => (intro p hp; rw [List.mem_singleton.mp hp]; k_mem))
    case qe => first
      | exact unl_f' (by assumption) (of_decide_eq_true (by rfl)) (by rfl)
      | exact unl_t3 (by assumption) (by assumption) (by rfl) (by rfl))
theorem unl_t4 {i1 i2 i3 i4 : Int} {z1 z2 z3 : Nat} (h1 : ([i1].any fun x => x == [i1, i2, i3, i4].getD z1 0) = false) (h2 : ([i1, i2].any fun x => x == [i1, i2, i3, i4].getD z2 0) = false) (h3 : ([i1, i2, i3].any fun x => x == [i1, i2, i3, i4].getD z3 0) = false) (e1 : z1 = 1) (e2 : z2 = 2) (e3 : z3 = 3) : unlikeB [i1, i2, i3, i4] = true := by
  subst e1; subst e2; subst e3
  refine unl_t [i1, i2, i3, i4] fun k hk => ?_
  have hk' : k < 4 := hk
  obtain rfl | rfl | rfl | rfl : k = 0 ∨ k = 1 ∨ k = 2 ∨ k = 3 := by omega
  all_goals first | rfl | assumption
set_option maxHeartbeats 8000000 in
theorem unlike_call4 {w : World} {dp un : Nat} {gd : Option (List Code)} {cn : Str} {cs : Scope} {a L : Addr} {ccd : Value} {outer : List Env} {A₀ : Around} {base h₀ : Heap} {m : Str → Option Value} {s : Shared} {Q E : Value → Shared → Prop} {news : List (Addr × Obj)} {mean : ExcName → Option Value} {mg mb : Str → Option Value} {l : Addr} {i1 i2 i3 i4 : Int} {t1 t2 t3 t4 : Tok} {c : Nat}
    (B : Below A₀ base outer h₀) (F : Fr h₀ L s.heap m) (X : (hd.heap_39 w.params).In h₀) (N0 : News h₀ L s.heap news) (T : Top hd.view_39 (looseW hd.view_39 []) mean mg mb h₀) (hk : cs.kind = .function) (hdp : dp + 8 < recursionLimit) (hun : un + 24 < cLine) (hl : (l, listOf #[.int i1 t1, .int i2 t2, .int i3 t3, .int i4 t4] c) ∈ news)
    (hret : ∀ h' tk', Fr h₀ L h' m → News h₀ L h' news → Q (.bool (unlikeB [i1, i2, i3, i4])) { s with heap := h', toks := tk' }) :
    wpAny (model PySem.Challenge.rw_xm0811_01.row.prog w) (ktrTop dp un gd cn cs L a ccd [] outer) (call (.ref 123) [.ref l]) Q E s := by
  revert X
  k_fill
  intro X
  have N : News h₀ L s.heap [(l, listOf #[.int i1 t1, .int i2 t2, .int i3 t3, .int i4 t4] c)] := news_one N0 hl
  refine wpAny_call ?_
  k_dflt (refine' code_defG ?k1 ?k2 ?k3 ?k4 ?k5 ?kA ?kF ?kK ?k6 ?k7 ?k8 ?k9 ?kB ?_ ?c2 ?c3 ?c4 ?c5; (case kA => exact rfl); (case kF => exact rfl); (case kK => assumption); (case k1 => exact B); (case k2 => exact F); (case k3 => exact X); (case k4 => exact N); (case k5 => exact T); (case k6 => k_is); (case k7 => k_is); (case k8 => ktr_room); (case k9 => exact BindsTo.of_eq rfl); (case c5 => decide); (case kB => exact locs rfl); (case c2 => exact rfl); (case c3 => exact rfl); (case c4 => exact rfl); k_whole; intro g' L' h' FG' F' N' B' X' T' hG; (try dsimp only); (try k_lift B'); (try k_fold))
  have hret' : ∀ (b : Bool) h' tk' L'' m' small', unlikeB [i1, i2, i3, i4] = b → Fr h₀ L h' m → Fr g' L'' h' m' → News h₀ L h' small' → (∀ p ∈ [(l, listOf #[.int i1 t1, .int i2 t2, .int i3 t3, .int i4 t4] c)], p ∈ small') → Q (.bool b) { s with heap := h', toks := tk' } := fun b h' tk' L'' m' small' e F' FF Ns hs => e ▸ hret h' tk' F' (lite_back N0 hG FF Ns N hs)
  clear hret N0 hl
  (repeat' (first | (k_unfold; (try dsimp only)) | (k_end; wrow_close) | ((first | with_reducible show wpAny _ _ (eval (PySem.Expr.Call _ _ _ _) _) _ _ _ | with_reducible show wpAny _ _ (eval (PySem.Expr.List _ _) _) _ _ _ | with_reducible show wpAny _ _ (eval (PySem.Expr.Tuple _ _ _) _) _ _ _ | with_reducible show wpAny _ _ (eval (PySem.Expr.Subscript _ _ _) _) _ _ _ | with_reducible show wpAny _ _ (eval (PySem.Expr.BinOp _ _ _ _) _) _ _ _); refine qfold ?_; intro q9; walk1) | walk1 | (dsimp only; walk1) | (leave1; walk_say "STEP leave1"; try dsimp only) | fail "no step"))
  all_goals (
    refine' hret' _ _ _ _ _ _ ?qe ?qf ?qg ?qn ?qm
    (case qf => assumption)
    (case qg => assumption)
    (case qn => assumption)
    (case qm => (intro p hp; rw [List.mem_singleton.mp hp]; k_mem))
    case qe => first
      | exact unl_f' (by assumption) (of_decide_eq_true (by rfl)) (by rfl)
      | exact unl_t4 (by assumption) (by assumption) (by assumption) (by rfl) (by rfl) (by rfl))
theorem unl_t5 {i1 i2 i3 i4 i5 : Int} {z1 z2 z3 z4 : Nat} (h1 : ([i1].any fun x => x == [i1, i2, i3, i4, i5].getD z1 0) = false) (h2 : ([i1, i2].any fun x => x == [i1, i2, i3, i4, i5].getD z2 0) = false) (h3 : ([i1, i2, i3].any fun x => x == [i1, i2, i3, i4, i5].getD z3 0) = false) (h4 : ([i1, i2, i3, i4].any fun x => x == [i1, i2, i3, i4, i5].getD z4 0) = false) (e1 : z1 = 1) (e2 : z2 = 2) (e3 : z3 = 3) (e4 : z4 = 4) : unlikeB [i1, i2, i3, i4, i5] = true := by
  subst e1; subst e2; subst e3; subst e4
  refine unl_t [i1, i2, i3, i4, i5] fun k hk => ?_
  have hk' : k < 5 := hk
  obtain rfl | rfl | rfl | rfl | rfl : k = 0 ∨ k = 1 ∨ k = 2 ∨ k = 3 ∨ k = 4 := by omega
  all_goals first | rfl | assumption
set_option maxHeartbeats 8000000 in
theorem unlike_call5 {w : World} {dp un : Nat} {gd : Option (List Code)} {cn : Str} {cs : Scope} {a L : Addr} {ccd : Value} {outer : List Env} {A₀ : Around} {base h₀ : Heap} {m : Str → Option Value} {s : Shared} {Q E : Value → Shared → Prop} {news : List (Addr × Obj)} {mean : ExcName → Option Value} {mg mb : Str → Option Value} {l : Addr} {i1 i2 i3 i4 i5 : Int} {t1 t2 t3 t4 t5 : Tok} {c : Nat}
    (B : Below A₀ base outer h₀) (F : Fr h₀ L s.heap m) (X : (hd.heap_39 w.params).In h₀) (N0 : News h₀ L s.heap news) (T : Top hd.view_39 (looseW hd.view_39 []) mean mg mb h₀) (hk : cs.kind = .function) (hdp : dp + 8 < recursionLimit) (hun : un + 24 < cLine) (hl : (l, listOf #[.int i1 t1, .int i2 t2, .int i3 t3, .int i4 t4, .int i5 t5] c) ∈ news)
    (hret : ∀ h' tk', Fr h₀ L h' m → News h₀ L h' news → Q (.bool (unlikeB [i1, i2, i3, i4, i5])) { s with heap := h', toks := tk' }) :
    wpAny (model PySem.Challenge.rw_xm0811_01.row.prog w) (ktrTop dp un gd cn cs L a ccd [] outer) (call (.ref 123) [.ref l]) Q E s := by
  revert X
  k_fill
  intro X
  have N : News h₀ L s.heap [(l, listOf #[.int i1 t1, .int i2 t2, .int i3 t3, .int i4 t4, .int i5 t5] c)] := news_one N0 hl
  refine wpAny_call ?_
  k_dflt (refine' code_defG ?k1 ?k2 ?k3 ?k4 ?k5 ?kA ?kF ?kK ?k6 ?k7 ?k8 ?k9 ?kB ?_ ?c2 ?c3 ?c4 ?c5; (case kA => exact rfl); (case kF => exact rfl); (case kK => assumption); (case k1 => exact B); (case k2 => exact F); (case k3 => exact X); (case k4 => exact N); (case k5 => exact T); (case k6 => k_is); (case k7 => k_is); (case k8 => ktr_room); (case k9 => exact BindsTo.of_eq rfl); (case c5 => decide); (case kB => exact locs rfl); (case c2 => exact rfl); (case c3 => exact rfl); (case c4 => exact rfl); k_whole; intro g' L' h' FG' F' N' B' X' T' hG; (try dsimp only); (try k_lift B'); (try k_fold))
  have hret' : ∀ (b : Bool) h' tk' L'' m' small', unlikeB [i1, i2, i3, i4, i5] = b → Fr h₀ L h' m → Fr g' L'' h' m' → News h₀ L h' small' → (∀ p ∈ [(l, listOf #[.int i1 t1, .int i2 t2, .int i3 t3, .int i4 t4, .int i5 t5] c)], p ∈ small') → Q (.bool b) { s with heap := h', toks := tk' } := fun b h' tk' L'' m' small' e F' FF Ns hs => e ▸ hret h' tk' F' (lite_back N0 hG FF Ns N hs)
  clear hret N0 hl
  (repeat' (first | (k_unfold; (try dsimp only)) | (k_end; wrow_close) | ((first | with_reducible show wpAny _ _ (eval (PySem.Expr.Call _ _ _ _) _) _ _ _ | with_reducible show wpAny _ _ (eval (PySem.Expr.List _ _) _) _ _ _ | with_reducible show wpAny _ _ (eval (PySem.Expr.Tuple _ _ _) _) _ _ _ | with_reducible show wpAny _ _ (eval (PySem.Expr.Subscript _ _ _) _) _ _ _ | with_reducible show wpAny _ _ (eval (PySem.Expr.BinOp _ _ _ _) _) _ _ _); refine qfold ?_; intro q9; walk1) | walk1 | (dsimp only; walk1) | (leave1; walk_say "STEP leave1"; try dsimp only) | fail "no step"))
  all_goals (
    refine' hret' _ _ _ _ _ _ ?qe ?qf ?qg ?qn ?qm
    (case qf => assumption)
    (case qg => assumption)
    (case qn => assumption)
    (case qm => (intro p hp; rw [List.mem_singleton.mp hp]; k_mem))
    case qe => first
      | exact unl_f' (by assumption) (of_decide_eq_true (by rfl)) (by rfl)
      | exact unl_t5 (by assumption) (by assumption) (by assumption) (by assumption) (by rfl) (by rfl) (by rfl) (by rfl))
end Mine
end
section
open PySem PySem.W PyProof.Rows PySem.Calls
namespace Mine
set_option maxRecDepth 100000
section
variable {prog : Program} {w : World} {A : Around} {E : Value → Shared → Prop} {s : Shared} {env : Env} {h₀ : Heap} {x : Str} {body : List Stmt} {Q : Flow → Shared → Prop}
/-- a turn's end: the names but x stand as they stood, the ledger stands, the word holds -/
def TurnI (h₀ : Heap) (L : Addr) (x : Str) (m : Str → Option Value) (need : List (Addr × Obj)) (P : Prop) (s₁ : Shared) (Q : Flow → Shared → Prop) (f : Flow) (s₂ : Shared) : Prop :=
  match f with
  | .ret v => Q (.ret v) s₂
  | .brk => Q .next s₂
  | _ => P ∧ ∃ h' tk m', s₂ = { s₁ with heap := h', toks := tk } ∧ Fr h₀ L h' m' ∧ News h₀ L h' need ∧ ∀ y, y ≠ x → m' y = m y
/-- a for over a list of the ledger, by a word that holds from turn to turn -/
theorem iter_list (Inv : Nat → Prop) {l : Addr} {vs : List Value} {c : Nat} {m₀ : Str → Option Value} {news : List (Addr × Obj)}
    (hh : A.handled = none) (hl : (l, listOf vs.toArray c) ∈ news) (F : Fr h₀ env.locals s.heap m₀) (N : News h₀ env.locals s.heap news) (h0 : Inv 0)
    (turn : ∀ i v h tk own, vs[i]? = some v → Inv i → Fr h₀ env.locals h (fun y => if y = x then some v else m₀ y) → News h₀ env.locals h (own ++ news) →
      wpAny (model prog w) A (execs body env) (TurnI h₀ env.locals x m₀ (own ++ news) (Inv (i + 1)) { s with heap := h, toks := tk } Q) E { s with heap := h, toks := tk })
    (done : ∀ (u : Option Value) h tk, Inv vs.length → Fr h₀ env.locals h (fun y => if y = x then u else m₀ y) → News h₀ env.locals h news → Q .next { s with heap := h, toks := tk }) :
    wpAny (model prog w) A (pyIter (.ref l)) (fun it s₂ => LoopAtV prog w A h₀ env x body Q E it s₂) E s := by
  obtain ⟨hg, hlL, hl0⟩ := N _ hl
  have hls : s.heap.IsList l vs.toArray := ⟨_, hg, rfl, _, rfl⟩
  have hne : l ≠ s.heap.objs.size := Nat.ne_of_lt (Heap.lt_size hg)
  refine wpAny_pyIter_list hls ?_
  have W := Walks.list (prog := prog) (w := w) hh s.heap.objs.size l hne vs.toArray
  have hlen : vs.toArray.size = vs.length := by simp
  rw [hlen] at W
  let J : Nat → (Str → Option Value) → List (Addr × Obj) → Prop := fun i m₁ news₁ => Inv i ∧ news₁ = news ∧ ∀ y, y ≠ x → m₁ y = m₀ y
  refine ⟨_, _, _, vs.length, _, _, m₀, news, J, rfl, W, ?_, ?_, ?_, ⟨⟨_, Heap.get?_push_size _ rfl, rfl, rfl⟩, hls.at fun o e => Heap.get?_push_of_some _ e⟩, F.push _, (fun p hp => ⟨Heap.get?_push_of_some _ (N p hp).1, (N p hp).2⟩), ⟨h0, rfl, fun _ _ => rfl⟩, ?_, ?_⟩
  · intro hm
    rcases List.mem_cons.mp hm with e | hm
    · exact absurd F.ns.lt (e ▸ Nat.lt_irrefl _)
    · exact hlL (List.mem_singleton.mp hm).symm
  · intro b hb
    rw [List.mem_singleton.mp hb]
    exact next_is_new F
  · intro p hp hI
    exact absurd (Heap.lt_size (N p hp).1) ((List.mem_singleton.mp hI) ▸ Nat.lt_irrefl _)
  · rintro i v m₁ news₁ s₁ own ⟨hh', tk', rfl⟩ hin hP ⟨hI, rfl, hJ⟩ hoff _ _ _ _ F₁ N₁
    have hv : vs[i]? = some v := by simpa using hP
    have e : (fun y => if y = x then some v else m₁ y) = fun y => if y = x then some v else m₀ y := by
      funext y
      by_cases h1 : y = x
      · simp [h1]
      · simp only [if_neg h1]; exact hJ y h1
    rw [e] at F₁
    refine wpAny_mono (turn i v hh' tk' own hv hI F₁ N₁) (fun f s₂ p => ?_) fun _ _ e => e
    have fin : (Inv (i + 1) ∧ ∃ h' tk m', s₂ = { ({ s with heap := hh', toks := tk' } : Shared) with heap := h', toks := tk } ∧ Fr h₀ env.locals h' m' ∧ News h₀ env.locals h' (own ++ news₁) ∧ ∀ y, y ≠ x → m' y = m₀ y) → LoopStepU h₀ env.locals [s.heap.objs.size] own (J (i + 1)) { s with heap := hh', toks := tk' } .next s₂ := by
      rintro ⟨hI', h', tk, m', e, F', N', hm⟩
      exact ⟨rfl, h', tk, m', news₁, e, F', N', hoff, hI', rfl, hm⟩
    cases f with
    | ret v => exact .ret p
    | brk => exact .brk p
    | next => exact .next (fin p)
    | cont => exact .cont (fin p)
  · rintro h' tk m' news' F' N' _ ⟨hI, rfl, hJ⟩
    refine done (m' x) h' tk hI ?_ N'
    have e : (fun y => if y = x then m' x else m₀ y) = m' := by
      funext y
      by_cases h1 : y = x
      · simp [h1]
      · simp only [if_neg h1]; exact (hJ y h1).symm
    rw [e]; exact F'
/-- a comprehension's turns, by a word over what is made and what stands -/
theorem comp_rest {L : Addr} {m : Str → Option Value} {elt : Expr} {scope : Scope} {cl : List (Str × Addr)} {S : List (Addr × Obj) → Prop} {P : Nat → Value → Prop} {Fin : List Value → List (Addr × Obj) → Prop} (n : Nat) (J : Nat → List Value → List (Addr × Obj) → Prop)
    (step : ∀ i ys news, i < n → J i ys news → ∀ v I oI C oC D m₂ h tk (E' : Value → Shared → Prop), P i v → LCg.NsObj oC m₂ → m₂ x = some v → Fr h₀ L h m → News h₀ L h ((I, oI) :: (C, oC) :: (D, LCg.lst ys) :: news) → LCg.Off3 I C D news → ((@Ne Nat I C) ∧ (@Ne Nat I D) ∧ (@Ne Nat C D)) →
      wpAny (model prog w) A (eval elt (compEnvC scope cl C env)) (LCg.CompEnd h₀ L m { s with heap := h, toks := tk } I oI C oC D (LCg.lst ys) S (fun y news' => J (i + 1) (ys ++ [y]) news')) E' { s with heap := h, toks := tk })
    (fin : ∀ ys news, J n ys news → Fin ys news) : ∀ k i ys news, i + k = n → J i ys news → LCg.CompRest prog w A h₀ L m env elt x scope cl s S P Fin k i ys news
  | 0, i, ys, news, e, h => fin _ _ (by rw [← e]; exact h)
  | k + 1, i, ys, news, e, h => LCg.CompRest.succ fun v I oI C oC D m₂ hp tk E' hP hC hx F N o hne => by
    refine wpAny_mono (step i ys news (by omega) h v I oI C oC D m₂ hp tk E' hP hC hx F N o hne) (fun y s₂ z => ?_) fun _ _ z => z
    obtain ⟨h', tk', news', e1, F', N', o', hS, hJ⟩ := z
    exact ⟨h', tk', news', e1, F', N', o', hS, comp_rest n J step fin k (i + 1) _ _ (by omega) hJ⟩
end
end Mine
end
section
open PySem PySem.W PyProof.Rows PySem.Calls
namespace Mine
set_option maxRecDepth 100000
def IntsAt : List Value → List Int → Prop
  | [], [] => True
  | y :: ys, n :: ns => (∃ t, y = Value.int n t) ∧ IntsAt ys ns
  | _, _ => False
theorem IntsAt.snoc {n : Int} {t : Tok} : ∀ {ys : List Value} {ns : List Int}, IntsAt ys ns → IntsAt (ys ++ [Value.int n t]) (ns ++ [n])
  | [], [], _ => ⟨⟨t, rfl⟩, trivial⟩
  | _ :: _, _ :: _, h => ⟨h.1, IntsAt.snoc h.2⟩
  | [], _ :: _, h => h.elim
  | _ :: _, [], h => h.elim
theorem unlike_any {w : World} {dp un : Nat} {gd : Option (List Code)} {cn : Str} {cs : Scope} {a L : Addr} {ccd : Value} {outer : List Env} {A₀ : Around} {base h₀ : Heap} {m : Str → Option Value} {s : Shared} {Q E : Value → Shared → Prop} {news : List (Addr × Obj)} {mean : ExcName → Option Value} {mg mb : Str → Option Value} {l : Addr} {ys : List Value} {ns : List Int} {c : Nat}
    (B : Below A₀ base outer h₀) (F : Fr h₀ L s.heap m) (X : (hd.heap_39 w.params).In h₀) (N0 : News h₀ L s.heap news) (T : Top hd.view_39 (looseW hd.view_39 []) mean mg mb h₀) (hk : cs.kind = .function) (hdp : dp + 8 < recursionLimit) (hun : un + 24 < cLine) (hl : (l, listOf ys.toArray c) ∈ news) (hi : IntsAt ys ns) (h1 : 1 ≤ ns.length) (h5 : ns.length ≤ 5)
    (hret : ∀ h' tk', Fr h₀ L h' m → News h₀ L h' news → Q (.bool (unlikeB ns)) { s with heap := h', toks := tk' }) :
    wpAny (model PySem.Challenge.rw_xm0811_01.row.prog w) (ktrTop dp un gd cn cs L a ccd [] outer) (call (.ref 123) [.ref l]) Q E s := by
  rcases ns with _ | ⟨n1, _ | ⟨n2, _ | ⟨n3, _ | ⟨n4, _ | ⟨n5, _ | ⟨n6, r⟩⟩⟩⟩⟩⟩
  · simp at h1
  · rcases ys with _ | ⟨y1, _ | ⟨y2, r⟩⟩ <;> simp only [IntsAt, and_true, and_false] at hi
    obtain ⟨t1, rfl⟩ := hi
    exact unlike_call1 B F X N0 T hk hdp hun hl hret
  · rcases ys with _ | ⟨y1, _ | ⟨y2, _ | ⟨y3, r⟩⟩⟩ <;> simp only [IntsAt, and_true, and_false] at hi
    obtain ⟨⟨t1, rfl⟩, ⟨t2, rfl⟩⟩ := hi
    exact unlike_call2 B F X N0 T hk hdp hun hl hret
  · rcases ys with _ | ⟨y1, _ | ⟨y2, _ | ⟨y3, _ | ⟨y4, r⟩⟩⟩⟩ <;> simp only [IntsAt, and_true, and_false] at hi
    obtain ⟨⟨t1, rfl⟩, ⟨t2, rfl⟩, ⟨t3, rfl⟩⟩ := hi
    exact unlike_call3 B F X N0 T hk hdp hun hl hret
  · rcases ys with _ | ⟨y1, _ | ⟨y2, _ | ⟨y3, _ | ⟨y4, _ | ⟨y5, r⟩⟩⟩⟩⟩ <;> simp only [IntsAt, and_true, and_false] at hi
    obtain ⟨⟨t1, rfl⟩, ⟨t2, rfl⟩, ⟨t3, rfl⟩, ⟨t4, rfl⟩⟩ := hi
    exact unlike_call4 B F X N0 T hk hdp hun hl hret
  · rcases ys with _ | ⟨y1, _ | ⟨y2, _ | ⟨y3, _ | ⟨y4, _ | ⟨y5, _ | ⟨y6, r⟩⟩⟩⟩⟩⟩ <;> simp only [IntsAt, and_true, and_false] at hi
    obtain ⟨⟨t1, rfl⟩, ⟨t2, rfl⟩, ⟨t3, rfl⟩, ⟨t4, rfl⟩, ⟨t5, rfl⟩⟩ := hi
    exact unlike_call5 B F X N0 T hk hdp hun hl hret
  · simp only [List.length_cons] at h5; omega
end Mine
end
section
open PySem PySem.W PyProof.Rows PySem.Calls
namespace Mine
set_option maxRecDepth 100000
abbrev Row := Int × Int × Int × Int
def CompsAt (P : Params) (news : List (Addr × Obj)) (xs : List Value) (rows : List Row) : Prop := xs.length = rows.length ∧ ∀ (i : Nat) (c : Row), rows[i]? = some c → ∃ x : Addr, xs[i]? = some (Value.ref x) ∧ CompAt P news x c
theorem CompsAt.len {P : Params} {news : List (Addr × Obj)} {xs : List Value} {rows : List Row} (h : CompsAt P news xs rows) : xs.length = rows.length := h.1
def frameMsg (code prec h w : Int) (rows : List Row) : Option Str :=
  if isFrameB code = false then some (PySem.Str.ofString "the marker is none of a frame")
  else if isPrecB code prec = false then some (PySem.Str.ofString "a frame with samples of so many bits is not let")
  else if ¬ (0 ≤ h ∧ h ≤ 65535) then some (PySem.Str.ofString "a height is from 0 to 65535")
  else if ¬ (1 ≤ w ∧ w ≤ 65535) then some (PySem.Str.ofString "a width is from 1 to 65535")
  else if ¬ (1 ≤ rows.length ∧ rows.length ≤ 255) then some (PySem.Str.ofString "a frame has 1 to 255 components")
  else match rows.findSome? compMsg with
    | some m => some m
    | none => if unlikeB (rows.map (·.1)) = false then some (PySem.Str.ofString "a component stands twice") else none
theorem findSome_at {f : Row → Option Str} : ∀ {rows : List Row} {i : Nat} {c : Row} {msg : Str}, rows[i]? = some c → (∀ j, j < i → ∀ c, rows[j]? = some c → f c = none) → f c = some msg → rows.findSome? f = some msg
  | [], i, c, msg, h, _, _ => by simp at h
  | r :: rs, 0, c, msg, h, _, hc => by
    simp only [List.getElem?_cons_zero, Option.some.injEq] at h
    subst h
    rw [List.findSome?_cons, hc]
  | r :: rs, i + 1, c, msg, h, hb, hc => by
    rw [List.findSome?_cons, hb 0 (Nat.succ_pos _) r rfl]
    exact findSome_at (i := i) (by simpa using h) (fun j hj c' hc' => hb (j + 1) (Nat.succ_lt_succ hj) c' (by simpa using hc')) hc
theorem findSome_no {f : Row → Option Str} : ∀ {rows : List Row}, (∀ j, j < rows.length → ∀ c, rows[j]? = some c → f c = none) → rows.findSome? f = none
  | [], _ => rfl
  | r :: rs, hb => by
    rw [List.findSome?_cons, hb 0 (Nat.succ_pos _) r rfl]
    exact findSome_no fun j hj c' hc' => hb (j + 1) (Nat.succ_lt_succ hj) c' (by simpa using hc')
section
variable {code prec h w : Int} {rows : List Row}
theorem fm_1 (h1 : isFrameB code = false) : frameMsg code prec h w rows = some (PySem.Str.ofString "the marker is none of a frame") := by
  unfold frameMsg; rw [if_pos h1]
theorem fm_2 (h1 : isFrameB code = true) (h2 : isPrecB code prec = false) : frameMsg code prec h w rows = some (PySem.Str.ofString "a frame with samples of so many bits is not let") := by
  unfold frameMsg; rw [if_neg (by rw [h1]; decide), if_pos h2]
theorem fm_3 (h1 : isFrameB code = true) (h2 : isPrecB code prec = true) (h3 : ¬ (0 ≤ h ∧ h ≤ 65535)) : frameMsg code prec h w rows = some (PySem.Str.ofString "a height is from 0 to 65535") := by
  unfold frameMsg; rw [if_neg (by rw [h1]; decide), if_neg (by rw [h2]; decide), if_pos h3]
theorem fm_4 (h1 : isFrameB code = true) (h2 : isPrecB code prec = true) (h3 : 0 ≤ h ∧ h ≤ 65535) (h4 : ¬ (1 ≤ w ∧ w ≤ 65535)) : frameMsg code prec h w rows = some (PySem.Str.ofString "a width is from 1 to 65535") := by
  unfold frameMsg; rw [if_neg (by rw [h1]; decide), if_neg (by rw [h2]; decide), if_neg (fun q => q h3), if_pos h4]
theorem fm_5 (h1 : isFrameB code = true) (h2 : isPrecB code prec = true) (h3 : 0 ≤ h ∧ h ≤ 65535) (h4 : 1 ≤ w ∧ w ≤ 65535) (h5 : ¬ (1 ≤ rows.length ∧ rows.length ≤ 255)) : frameMsg code prec h w rows = some (PySem.Str.ofString "a frame has 1 to 255 components") := by
  unfold frameMsg; rw [if_neg (by rw [h1]; decide), if_neg (by rw [h2]; decide), if_neg (fun q => q h3), if_neg (fun q => q h4), if_pos h5]
theorem fm_6 (h1 : isFrameB code = true) (h2 : isPrecB code prec = true) (h3 : 0 ≤ h ∧ h ≤ 65535) (h4 : 1 ≤ w ∧ w ≤ 65535) (h5 : 1 ≤ rows.length ∧ rows.length ≤ 255) {msg : Str} (h6 : rows.findSome? compMsg = some msg) : frameMsg code prec h w rows = some msg := by
  unfold frameMsg; rw [if_neg (by rw [h1]; decide), if_neg (by rw [h2]; decide), if_neg (fun q => q h3), if_neg (fun q => q h4), if_neg (fun q => q h5), h6]
theorem fm_7 (h1 : isFrameB code = true) (h2 : isPrecB code prec = true) (h3 : 0 ≤ h ∧ h ≤ 65535) (h4 : 1 ≤ w ∧ w ≤ 65535) (h5 : 1 ≤ rows.length ∧ rows.length ≤ 255) (h6 : rows.findSome? compMsg = none) (h7 : unlikeB (rows.map (·.1)) = false) : frameMsg code prec h w rows = some (PySem.Str.ofString "a component stands twice") := by
  unfold frameMsg; rw [if_neg (by rw [h1]; decide), if_neg (by rw [h2]; decide), if_neg (fun q => q h3), if_neg (fun q => q h4), if_neg (fun q => q h5), h6]
  exact if_pos h7
theorem fm_0 (h1 : isFrameB code = true) (h2 : isPrecB code prec = true) (h3 : 0 ≤ h ∧ h ≤ 65535) (h4 : 1 ≤ w ∧ w ≤ 65535) (h5 : 1 ≤ rows.length ∧ rows.length ≤ 255) (h6 : rows.findSome? compMsg = none) (h7 : unlikeB (rows.map (·.1)) = true) : frameMsg code prec h w rows = none := by
  unfold frameMsg; rw [if_neg (by rw [h1]; decide), if_neg (by rw [h2]; decide), if_neg (fun q => q h3), if_neg (fun q => q h4), if_neg (fun q => q h5), h6]
  exact if_neg (by rw [h7]; decide)
end
theorem RaisedD.drop {P : Params} {base G : Heap} {l : List Env} {e : Addr} {msg : Str} {news news' : List (Addr × Obj)} {h : Heap} (R : RaisedD P base G l e msg news' h) (hs : ∀ p ∈ news, p ∈ news') : RaisedD P base G l e msg news h := by
  obtain ⟨B, dx, tk, tk2, a0, oe, fs, h1, h2, h3, h4⟩ := R
  refine ⟨B, dx, tk, tk2, a0, oe, fs, h1, h2, fun q hq => h3 q ?_, h4⟩
  rcases List.mem_cons.mp hq with rfl | hq
  · exact .head _
  · exact .tail _ (hs q hq)
theorem CompAt.mono {P : Params} {news news' : List (Addr × Obj)} {x : Addr} {c : Row} (h : CompAt P news x c) (hs : ∀ p ∈ news, p ∈ news') : CompAt P news' x c := by
  obtain ⟨dx, t1, t2, t3, t4, t5, t6, t7, t8, h1, h2⟩ := h
  exact ⟨dx, t1, t2, t3, t4, t5, t6, t7, t8, hs _ h1, hs _ h2⟩
set_option maxHeartbeats 8000000 in
theorem frame_call {w : World} {dp un : Nat} {gd : Option (List Code)} {cn : Str} {cs : Scope} {a L : Addr} {ccd : Value} {outer : List Env} {A₀ : Around} {base h₀ : Heap} {m : Str → Option Value} {s : Shared} {Q E : Value → Shared → Prop} {news : List (Addr × Obj)} {mean : ExcName → Option Value} {mg mb : Str → Option Value} {y dy l : Addr} {xs : List Value} {c : Nat} {code prec hi wi : Int} {rows : List Row} {t1 t2 t3 t4 t5 t6 t7 t8 t9 : Tok}
    (B : Below A₀ base outer h₀) (F : Fr h₀ L s.heap m) (X : (hd.heap_39 w.params).In h₀) (N : News h₀ L s.heap news) (T : Top hd.view_39 (looseW hd.view_39 []) mean mg mb h₀) (hk : cs.kind = .function) (hdp : dp + 20 < recursionLimit) (hun : un + 60 < cLine)
    (hy : (y, instObj 91 dy) ∈ news) (hdy : (dy, headDict w.params code prec hi wi l t1 t2 t3 t4 t5 t6 t7 t8 t9) ∈ news) (hl : (l, listOf xs.toArray c) ∈ news) (hc : CompsAt w.params news xs rows) (hn : rows.length ≤ 5 ∨ (255 < rows.length ∧ rows.length < 1000))
    (hret : frameMsg code prec hi wi rows = none → ∀ h' tk', Fr h₀ L h' m → News h₀ L h' news → Q .none { s with heap := h', toks := tk' })
    (hE : ∀ msg, frameMsg code prec hi wi rows = some msg → ∀ g' h' tk' e, Fr h₀ L g' m → RaisedD w.params base g' (envX cn cs L a ccd [] :: outer) e msg news h' → g'.UpToSlots h' → E (.ref e) { s with heap := h', toks := tk' }) :
    wpAny (model PySem.Challenge.rw_xm0811_01.row.prog w) (ktrTop dp un gd cn cs L a ccd [] outer) (call (.ref 135) [.ref y]) Q E s := by
  revert X
  k_fill
  intro X
  refine wpAny_call ?_
  k_dflt cell_enter
  (repeat' (first | (k_unfold; (try dsimp only)) | (k_end; wrow_close) | (first | (with_reducible (first | ((with_reducible show wpAny _ _ (eval (PySem.Expr.ListComp _ _ _ _) _) _ _ _); first | (k_here; k_dflt (refine LCg.ListComp_U (F₀ := by k_asm) (by rfl) (by decide) (by rfl) (by decide) (by rfl) ?_))) | ((with_reducible show wpAny _ _ (leaving _ _) _ _ _); first | (k_here; (refine' leave_onD ?qhk1 ?qhk2 ?qhk3 ?qhk4 ?_; (case qhk3 => assumption); (case qhk2 => assumption); (case qhk1 => assumption); (case qhk4 => assumption); k_whole; intro h' R' U'; (try dsimp only at R' U' ⊢)))) | ((with_reducible show wpAny _ _ (call _ _) _ _ _); first | ((with_reducible show wpAny _ _ (call (Value.ref _) _) _ _ _); first | (k_here; (with_reducible show wpAny _ _ (call (Value.ref 123) [Value.ref _]) _ _ _); k_dflt (refine' unlike_any ?qhk1 ?qhk2 ?qhk3 ?qhk4 ?qhk5 ?qhk6 ?qhk7 ?qhk8 ?qhkl ?qhk9 ?qhk10 ?qhk11 ?_; (case qhk9 => assumption); (case qhk1 => k_asm); (case qhk2 => k_asm); (case qhk3 => k_asm); (case qhk4 => k_asm); (case qhk5 => k_asm); (case qhk6 => first | exact rfl | assumption); (case qhk7 => ktr_room); (case qhk8 => ktr_units); (case qhkl => exact .head _); (case qhk10 => (rw [List.length_map]; omega)); (case qhk11 => (rw [List.length_map]; omega)); k_whole); intro h' tk' F' N'; (try k_sweep)) | (k_here; (with_reducible show wpAny _ _ (call (Value.ref 116) [Value.int _ _, Value.int _ _]) _ _ _); k_dflt (refine' isprec_call ?qhk1 ?qhk2 ?qhk3 ?qhk4 ?qhk5 ?qhk6 ?qhk7 ?qhk8 ?_; (case qhk1 => k_asm); (case qhk2 => k_asm); (case qhk3 => k_asm); (case qhk4 => k_asm); (case qhk5 => k_asm); (case qhk6 => first | exact rfl | assumption); (case qhk7 => ktr_room); (case qhk8 => ktr_units); k_whole); intro t' h' tk' F' N'; (try k_sweep)) | (k_here; (with_reducible show wpAny _ _ (call (Value.ref 53) [Value.int _ _]) _ _ _); k_dflt (refine' isframe_call ?qhk1 ?qhk2 ?qhk3 ?qhk4 ?qhk5 ?qhk6 ?qhk7 ?qhk8 ?_; (case qhk1 => k_asm); (case qhk2 => k_asm); (case qhk3 => k_asm); (case qhk4 => k_asm); (case qhk5 => k_asm); (case qhk6 => first | exact rfl | assumption); (case qhk7 => ktr_room); (case qhk8 => ktr_units); k_whole); intro t' h' tk' F' N'; (try k_sweep)) | (k_here; (with_reducible show wpAny _ _ (call (Value.ref 102) [Value.bool _, Value.str _ _]) _ _ _); k_dflt (refine' want_call ?qhk1 ?qhk2 ?qhk3 ?qhk4 ?qhk5 ?qhk6 ?qhk7 ?qhk8 ?_ ?_; (case qhk1 => k_asm); (case qhk2 => k_asm); (case qhk3 => k_asm); (case qhk4 => k_asm); (case qhk5 => k_asm); (case qhk6 => first | exact rfl | assumption); (case qhk7 => ktr_room); (case qhk8 => ktr_units); k_whole); all_goals (intro hb; first | (exfalso; ((simp only [decide_eq_true_eq, decide_eq_false_iff_not] at hb) <;> omega); done) | ((try simp only [decide_eq_true_eq, decide_eq_false_iff_not] at hb); first | intro g' h' tk' e' F' R' U' | (intro h' tk' F' N'; (try k_sweep))))) | (k_here; (with_reducible show wpAny _ _ (call (Value.ref 130) [Value.ref _]) _ _ _); k_dflt (refine' comp_call ?qhk1 ?qhk2 ?qhk3 ?qhk4 ?qhk5 ?qhk6 ?qhk7 ?qhk8 ?qhk9 ?_ ?_; (case qhk9 => assumption); (case qhk1 => k_asm); (case qhk2 => k_asm); (case qhk3 => k_asm); (case qhk4 => k_asm); (case qhk5 => k_asm); (case qhk6 => first | exact rfl | assumption); (case qhk7 => ktr_room); (case qhk8 => ktr_units); k_whole); all_goals (first | (intro msg' hb g' h' tk' e' F' R' U') | (intro hb h' tk' F' N'; (try k_sweep))))) | ((with_reducible show wpAny _ _ (call (Value.builtin "len") _) _ _ _); first | (k_here; k_dflt (refine' kst_len ?qhk1 ?qhk2 (CompsAt.len (by assumption)) ?qhk3 ?_; (case qhk1 => k_asm); (case qhk2 => assumption); (case qhk3 => omega); k_whole)))))) | ((with_reducible show wpAny _ _ (call (Value.ref _) _) _ _ _); (k_here; (with_reducible show wpAny _ _ (call (Value.ref 123) [Value.ref _]) _ _ _); k_dflt (refine' unlike_any ?qhk1 ?qhk2 ?qhk3 ?qhk4 ?qhk5 ?qhk6 ?qhk7 ?qhk8 ?qhkl ?qhk9 ?qhk10 ?qhk11 ?_; (case qhk9 => assumption); (case qhk1 => k_asm); (case qhk2 => k_asm); (case qhk3 => k_asm); (case qhk4 => k_asm); (case qhk5 => k_asm); (case qhk6 => first | exact rfl | assumption); (case qhk7 => ktr_room); (case qhk8 => ktr_units); (case qhkl => exact .head _); (case qhk10 => (rw [List.length_map]; omega)); (case qhk11 => (rw [List.length_map]; omega)); k_whole); intro h' tk' F' N'; (try k_sweep))) | ((with_reducible show wpAny _ _ (call (Value.builtin "len") _) _ _ _); (k_here; k_dflt (refine' kst_len ?qhk1 ?qhk2 (CompsAt.len (by assumption)) ?qhk3 ?_; (case qhk1 => k_asm); (case qhk2 => assumption); (case qhk3 => omega); k_whole))) | ((with_reducible show wpAny _ _ (leaving _ _) _ _ _); (k_here; (refine' leave_onD ?qhk1 ?qhk2 ?qhk3 ?qhk4 ?_; (case qhk3 => assumption); (case qhk2 => assumption); (case qhk1 => assumption); (case qhk4 => assumption); k_whole; intro h' R' U'; (try dsimp only at R' U' ⊢)))) | ((with_reducible show wpAny _ _ (call (Value.ref _) _) _ _ _); (k_here; (with_reducible show wpAny _ _ (call (Value.ref 116) [Value.int _ _, Value.int _ _]) _ _ _); k_dflt (refine' isprec_call ?qhk1 ?qhk2 ?qhk3 ?qhk4 ?qhk5 ?qhk6 ?qhk7 ?qhk8 ?_; (case qhk1 => k_asm); (case qhk2 => k_asm); (case qhk3 => k_asm); (case qhk4 => k_asm); (case qhk5 => k_asm); (case qhk6 => first | exact rfl | assumption); (case qhk7 => ktr_room); (case qhk8 => ktr_units); k_whole); intro t' h' tk' F' N'; (try k_sweep))) | ((with_reducible show wpAny _ _ (call (Value.ref _) _) _ _ _); (k_here; (with_reducible show wpAny _ _ (call (Value.ref 53) [Value.int _ _]) _ _ _); k_dflt (refine' isframe_call ?qhk1 ?qhk2 ?qhk3 ?qhk4 ?qhk5 ?qhk6 ?qhk7 ?qhk8 ?_; (case qhk1 => k_asm); (case qhk2 => k_asm); (case qhk3 => k_asm); (case qhk4 => k_asm); (case qhk5 => k_asm); (case qhk6 => first | exact rfl | assumption); (case qhk7 => ktr_room); (case qhk8 => ktr_units); k_whole); intro t' h' tk' F' N'; (try k_sweep))) | ((with_reducible show wpAny _ _ (call (Value.ref _) _) _ _ _); (k_here; (with_reducible show wpAny _ _ (call (Value.ref 102) [Value.bool _, Value.str _ _]) _ _ _); k_dflt (refine' want_call ?qhk1 ?qhk2 ?qhk3 ?qhk4 ?qhk5 ?qhk6 ?qhk7 ?qhk8 ?_ ?_; (case qhk1 => k_asm); (case qhk2 => k_asm); (case qhk3 => k_asm); (case qhk4 => k_asm); (case qhk5 => k_asm); (case qhk6 => first | exact rfl | assumption); (case qhk7 => ktr_room); (case qhk8 => ktr_units); k_whole); all_goals (intro hb; first | (exfalso; ((simp only [decide_eq_true_eq, decide_eq_false_iff_not] at hb) <;> omega); done) | ((try simp only [decide_eq_true_eq, decide_eq_false_iff_not] at hb); first | intro g' h' tk' e' F' R' U' | (intro h' tk' F' N'; (try k_sweep)))))) | ((with_reducible show wpAny _ _ (eval (PySem.Expr.ListComp _ _ _ _) _) _ _ _); (k_here; k_dflt (refine LCg.ListComp_U (F₀ := by k_asm) (by rfl) (by decide) (by rfl) (by decide) (by rfl) ?_))) | ((with_reducible show wpAny _ _ (call (Value.ref _) _) _ _ _); (k_here; (with_reducible show wpAny _ _ (call (Value.ref 130) [Value.ref _]) _ _ _); k_dflt (refine' comp_call ?qhk1 ?qhk2 ?qhk3 ?qhk4 ?qhk5 ?qhk6 ?qhk7 ?qhk8 ?qhk9 ?_ ?_; (case qhk9 => assumption); (case qhk1 => k_asm); (case qhk2 => k_asm); (case qhk3 => k_asm); (case qhk4 => k_asm); (case qhk5 => k_asm); (case qhk6 => first | exact rfl | assumption); (case qhk7 => ktr_room); (case qhk8 => ktr_units); k_whole); all_goals (first | (intro msg' hb g' h' tk' e' F' R' U') | (intro hb h' tk' F' N'; (try k_sweep)))))) | ((first | with_reducible show wpAny _ _ (eval (PySem.Expr.Call _ _ _ _) _) _ _ _ | with_reducible show wpAny _ _ (eval (PySem.Expr.List _ _) _) _ _ _ | with_reducible show wpAny _ _ (eval (PySem.Expr.Tuple _ _ _) _) _ _ _ | with_reducible show wpAny _ _ (eval (PySem.Expr.Subscript _ _ _) _) _ _ _ | with_reducible show wpAny _ _ (eval (PySem.Expr.BinOp _ _ _ _) _) _ _ _); refine qfold ?_; intro q9; walk1) | walk1 | (dsimp only; walk1) | (leave1; walk_say "STEP leave1"; try dsimp only) | fail "no step"))
  · have hn5 : rows.length ≤ 5 := by omega
    refine iter_list (fun i => ∀ j, j < i → ∀ c, rows[j]? = some c → compMsg c = none) rfl hl (by assumption) (by assumption) (fun j hj => absurd hj (Nat.not_lt_zero _)) ?turn ?done
    case turn =>
      intro i v h9 tk9 own hv hI F9 N9
      have hlt : i < rows.length := by
        rw [← hc.1]
        exact (List.getElem?_eq_some_iff.mp hv).1
      obtain ⟨x, hx, hcx⟩ := hc.2 i rows[i] (List.getElem?_eq_getElem hlt)
      rw [hv] at hx
      cases hx
      have hcx' := CompAt.mono hcx (news' := own ++ news) (fun p hp => List.mem_append_right _ hp)
      clear hcx
      (repeat' (first | (k_unfold; (try dsimp only)) | (k_end; wrow_close) | (first | (with_reducible (first | ((with_reducible show wpAny _ _ (eval (PySem.Expr.ListComp _ _ _ _) _) _ _ _); first | (k_here; k_dflt (refine LCg.ListComp_U (F₀ := by k_asm) (by rfl) (by decide) (by rfl) (by decide) (by rfl) ?_))) | ((with_reducible show wpAny _ _ (leaving _ _) _ _ _); first | (k_here; (refine' leave_onD ?qhk1 ?qhk2 ?qhk3 ?qhk4 ?_; (case qhk3 => assumption); (case qhk2 => assumption); (case qhk1 => assumption); (case qhk4 => assumption); k_whole; intro h' R' U'; (try dsimp only at R' U' ⊢)))) | ((with_reducible show wpAny _ _ (call _ _) _ _ _); first | ((with_reducible show wpAny _ _ (call (Value.ref _) _) _ _ _); first | (k_here; (with_reducible show wpAny _ _ (call (Value.ref 123) [Value.ref _]) _ _ _); k_dflt (refine' unlike_any ?qhk1 ?qhk2 ?qhk3 ?qhk4 ?qhk5 ?qhk6 ?qhk7 ?qhk8 ?qhkl ?qhk9 ?qhk10 ?qhk11 ?_; (case qhk9 => assumption); (case qhk1 => k_asm); (case qhk2 => k_asm); (case qhk3 => k_asm); (case qhk4 => k_asm); (case qhk5 => k_asm); (case qhk6 => first | exact rfl | assumption); (case qhk7 => ktr_room); (case qhk8 => ktr_units); (case qhkl => exact .head _); (case qhk10 => (rw [List.length_map]; omega)); (case qhk11 => (rw [List.length_map]; omega)); k_whole); intro h' tk' F' N'; (try k_sweep)) | (k_here; (with_reducible show wpAny _ _ (call (Value.ref 116) [Value.int _ _, Value.int _ _]) _ _ _); k_dflt (refine' isprec_call ?qhk1 ?qhk2 ?qhk3 ?qhk4 ?qhk5 ?qhk6 ?qhk7 ?qhk8 ?_; (case qhk1 => k_asm); (case qhk2 => k_asm); (case qhk3 => k_asm); (case qhk4 => k_asm); (case qhk5 => k_asm); (case qhk6 => first | exact rfl | assumption); (case qhk7 => ktr_room); (case qhk8 => ktr_units); k_whole); intro t' h' tk' F' N'; (try k_sweep)) | (k_here; (with_reducible show wpAny _ _ (call (Value.ref 53) [Value.int _ _]) _ _ _); k_dflt (refine' isframe_call ?qhk1 ?qhk2 ?qhk3 ?qhk4 ?qhk5 ?qhk6 ?qhk7 ?qhk8 ?_; (case qhk1 => k_asm); (case qhk2 => k_asm); (case qhk3 => k_asm); (case qhk4 => k_asm); (case qhk5 => k_asm); (case qhk6 => first | exact rfl | assumption); (case qhk7 => ktr_room); (case qhk8 => ktr_units); k_whole); intro t' h' tk' F' N'; (try k_sweep)) | (k_here; (with_reducible show wpAny _ _ (call (Value.ref 102) [Value.bool _, Value.str _ _]) _ _ _); k_dflt (refine' want_call ?qhk1 ?qhk2 ?qhk3 ?qhk4 ?qhk5 ?qhk6 ?qhk7 ?qhk8 ?_ ?_; (case qhk1 => k_asm); (case qhk2 => k_asm); (case qhk3 => k_asm); (case qhk4 => k_asm); (case qhk5 => k_asm); (case qhk6 => first | exact rfl | assumption); (case qhk7 => ktr_room); (case qhk8 => ktr_units); k_whole); all_goals (intro hb; first | (exfalso; ((simp only [decide_eq_true_eq, decide_eq_false_iff_not] at hb) <;> omega); done) | ((try simp only [decide_eq_true_eq, decide_eq_false_iff_not] at hb); first | intro g' h' tk' e' F' R' U' | (intro h' tk' F' N'; (try k_sweep))))) | (k_here; (with_reducible show wpAny _ _ (call (Value.ref 130) [Value.ref _]) _ _ _); k_dflt (refine' comp_call ?qhk1 ?qhk2 ?qhk3 ?qhk4 ?qhk5 ?qhk6 ?qhk7 ?qhk8 ?qhk9 ?_ ?_; (case qhk9 => assumption); (case qhk1 => k_asm); (case qhk2 => k_asm); (case qhk3 => k_asm); (case qhk4 => k_asm); (case qhk5 => k_asm); (case qhk6 => first | exact rfl | assumption); (case qhk7 => ktr_room); (case qhk8 => ktr_units); k_whole); all_goals (first | (intro msg' hb g' h' tk' e' F' R' U') | (intro hb h' tk' F' N'; (try k_sweep))))) | ((with_reducible show wpAny _ _ (call (Value.builtin "len") _) _ _ _); first | (k_here; k_dflt (refine' kst_len ?qhk1 ?qhk2 (CompsAt.len (by assumption)) ?qhk3 ?_; (case qhk1 => k_asm); (case qhk2 => assumption); (case qhk3 => omega); k_whole)))))) | ((with_reducible show wpAny _ _ (call (Value.ref _) _) _ _ _); (k_here; (with_reducible show wpAny _ _ (call (Value.ref 123) [Value.ref _]) _ _ _); k_dflt (refine' unlike_any ?qhk1 ?qhk2 ?qhk3 ?qhk4 ?qhk5 ?qhk6 ?qhk7 ?qhk8 ?qhkl ?qhk9 ?qhk10 ?qhk11 ?_; (case qhk9 => assumption); (case qhk1 => k_asm); (case qhk2 => k_asm); (case qhk3 => k_asm); (case qhk4 => k_asm); (case qhk5 => k_asm); (case qhk6 => first | exact rfl | assumption); (case qhk7 => ktr_room); (case qhk8 => ktr_units); (case qhkl => exact .head _); (case qhk10 => (rw [List.length_map]; omega)); (case qhk11 => (rw [List.length_map]; omega)); k_whole); intro h' tk' F' N'; (try k_sweep))) | ((with_reducible show wpAny _ _ (call (Value.builtin "len") _) _ _ _); (k_here; k_dflt (refine' kst_len ?qhk1 ?qhk2 (CompsAt.len (by assumption)) ?qhk3 ?_; (case qhk1 => k_asm); (case qhk2 => assumption); (case qhk3 => omega); k_whole))) | ((with_reducible show wpAny _ _ (leaving _ _) _ _ _); (k_here; (refine' leave_onD ?qhk1 ?qhk2 ?qhk3 ?qhk4 ?_; (case qhk3 => assumption); (case qhk2 => assumption); (case qhk1 => assumption); (case qhk4 => assumption); k_whole; intro h' R' U'; (try dsimp only at R' U' ⊢)))) | ((with_reducible show wpAny _ _ (call (Value.ref _) _) _ _ _); (k_here; (with_reducible show wpAny _ _ (call (Value.ref 116) [Value.int _ _, Value.int _ _]) _ _ _); k_dflt (refine' isprec_call ?qhk1 ?qhk2 ?qhk3 ?qhk4 ?qhk5 ?qhk6 ?qhk7 ?qhk8 ?_; (case qhk1 => k_asm); (case qhk2 => k_asm); (case qhk3 => k_asm); (case qhk4 => k_asm); (case qhk5 => k_asm); (case qhk6 => first | exact rfl | assumption); (case qhk7 => ktr_room); (case qhk8 => ktr_units); k_whole); intro t' h' tk' F' N'; (try k_sweep))) | ((with_reducible show wpAny _ _ (call (Value.ref _) _) _ _ _); (k_here; (with_reducible show wpAny _ _ (call (Value.ref 53) [Value.int _ _]) _ _ _); k_dflt (refine' isframe_call ?qhk1 ?qhk2 ?qhk3 ?qhk4 ?qhk5 ?qhk6 ?qhk7 ?qhk8 ?_; (case qhk1 => k_asm); (case qhk2 => k_asm); (case qhk3 => k_asm); (case qhk4 => k_asm); (case qhk5 => k_asm); (case qhk6 => first | exact rfl | assumption); (case qhk7 => ktr_room); (case qhk8 => ktr_units); k_whole); intro t' h' tk' F' N'; (try k_sweep))) | ((with_reducible show wpAny _ _ (call (Value.ref _) _) _ _ _); (k_here; (with_reducible show wpAny _ _ (call (Value.ref 102) [Value.bool _, Value.str _ _]) _ _ _); k_dflt (refine' want_call ?qhk1 ?qhk2 ?qhk3 ?qhk4 ?qhk5 ?qhk6 ?qhk7 ?qhk8 ?_ ?_; (case qhk1 => k_asm); (case qhk2 => k_asm); (case qhk3 => k_asm); (case qhk4 => k_asm); (case qhk5 => k_asm); (case qhk6 => first | exact rfl | assumption); (case qhk7 => ktr_room); (case qhk8 => ktr_units); k_whole); all_goals (intro hb; first | (exfalso; ((simp only [decide_eq_true_eq, decide_eq_false_iff_not] at hb) <;> omega); done) | ((try simp only [decide_eq_true_eq, decide_eq_false_iff_not] at hb); first | intro g' h' tk' e' F' R' U' | (intro h' tk' F' N'; (try k_sweep)))))) | ((with_reducible show wpAny _ _ (eval (PySem.Expr.ListComp _ _ _ _) _) _ _ _); (k_here; k_dflt (refine LCg.ListComp_U (F₀ := by k_asm) (by rfl) (by decide) (by rfl) (by decide) (by rfl) ?_))) | ((with_reducible show wpAny _ _ (call (Value.ref _) _) _ _ _); (k_here; (with_reducible show wpAny _ _ (call (Value.ref 130) [Value.ref _]) _ _ _); k_dflt (refine' comp_call ?qhk1 ?qhk2 ?qhk3 ?qhk4 ?qhk5 ?qhk6 ?qhk7 ?qhk8 ?qhk9 ?_ ?_; (case qhk9 => assumption); (case qhk1 => k_asm); (case qhk2 => k_asm); (case qhk3 => k_asm); (case qhk4 => k_asm); (case qhk5 => k_asm); (case qhk6 => first | exact rfl | assumption); (case qhk7 => ktr_room); (case qhk8 => ktr_units); k_whole); all_goals (first | (intro msg' hb g' h' tk' e' F' R' U') | (intro hb h' tk' F' N'; (try k_sweep)))))) | ((first | with_reducible show wpAny _ _ (eval (PySem.Expr.Call _ _ _ _) _) _ _ _ | with_reducible show wpAny _ _ (eval (PySem.Expr.List _ _) _) _ _ _ | with_reducible show wpAny _ _ (eval (PySem.Expr.Tuple _ _ _) _) _ _ _ | with_reducible show wpAny _ _ (eval (PySem.Expr.Subscript _ _ _) _) _ _ _ | with_reducible show wpAny _ _ (eval (PySem.Expr.BinOp _ _ _ _) _) _ _ _); refine qfold ?_; intro q9; walk1) | walk1 | (dsimp only; walk1) | (leave1; walk_say "STEP leave1"; try dsimp only) | fail "no step"))
      · unfold TurnI
        dsimp only
        refine ⟨fun j hj c' hc' => ?_, _, _, _, rfl, by assumption, by assumption, fun y hy => if_neg hy⟩
        rcases Nat.lt_succ_iff_lt_or_eq.mp hj with q | rfl
        · exact hI j q c' hc'
        · rw [List.getElem?_eq_getElem hlt] at hc'
          cases hc'
          assumption
      · refine hE _ (fm_6 (by assumption) (by assumption) ⟨by assumption, by assumption⟩ ⟨by assumption, by assumption⟩ (by omega) (findSome_at (List.getElem?_eq_getElem hlt) hI (by assumption))) _ _ _ _ (by assumption) (RaisedD.drop (by assumption) fun p hp => List.mem_append_right _ hp) (by assumption)
    case done =>
      intro u h9 tk9 hI F9 N9
      have hnone : rows.findSome? compMsg = none := findSome_no fun j hj => hI j (by rw [hc.1]; exact hj)
      have hlen := hc.1
      (repeat' (first | (k_unfold; (try dsimp only)) | (k_end; wrow_close) | (first | (with_reducible (first | ((with_reducible show wpAny _ _ (eval (PySem.Expr.ListComp _ _ _ _) _) _ _ _); first | (k_here; k_dflt (refine LCg.ListComp_U (F₀ := by k_asm) (by rfl) (by decide) (by rfl) (by decide) (by rfl) ?_))) | ((with_reducible show wpAny _ _ (leaving _ _) _ _ _); first | (k_here; (refine' leave_onD ?qhk1 ?qhk2 ?qhk3 ?qhk4 ?_; (case qhk3 => assumption); (case qhk2 => assumption); (case qhk1 => assumption); (case qhk4 => assumption); k_whole; intro h' R' U'; (try dsimp only at R' U' ⊢)))) | ((with_reducible show wpAny _ _ (call _ _) _ _ _); first | ((with_reducible show wpAny _ _ (call (Value.ref _) _) _ _ _); first | (k_here; (with_reducible show wpAny _ _ (call (Value.ref 123) [Value.ref _]) _ _ _); k_dflt (refine' unlike_any ?qhk1 ?qhk2 ?qhk3 ?qhk4 ?qhk5 ?qhk6 ?qhk7 ?qhk8 ?qhkl ?qhk9 ?qhk10 ?qhk11 ?_; (case qhk9 => assumption); (case qhk1 => k_asm); (case qhk2 => k_asm); (case qhk3 => k_asm); (case qhk4 => k_asm); (case qhk5 => k_asm); (case qhk6 => first | exact rfl | assumption); (case qhk7 => ktr_room); (case qhk8 => ktr_units); (case qhkl => exact .head _); (case qhk10 => (rw [List.length_map]; omega)); (case qhk11 => (rw [List.length_map]; omega)); k_whole); intro h' tk' F' N'; (try k_sweep)) | (k_here; (with_reducible show wpAny _ _ (call (Value.ref 116) [Value.int _ _, Value.int _ _]) _ _ _); k_dflt (refine' isprec_call ?qhk1 ?qhk2 ?qhk3 ?qhk4 ?qhk5 ?qhk6 ?qhk7 ?qhk8 ?_; (case qhk1 => k_asm); (case qhk2 => k_asm); (case qhk3 => k_asm); (case qhk4 => k_asm); (case qhk5 => k_asm); (case qhk6 => first | exact rfl | assumption); (case qhk7 => ktr_room); (case qhk8 => ktr_units); k_whole); intro t' h' tk' F' N'; (try k_sweep)) | (k_here; (with_reducible show wpAny _ _ (call (Value.ref 53) [Value.int _ _]) _ _ _); k_dflt (refine' isframe_call ?qhk1 ?qhk2 ?qhk3 ?qhk4 ?qhk5 ?qhk6 ?qhk7 ?qhk8 ?_; (case qhk1 => k_asm); (case qhk2 => k_asm); (case qhk3 => k_asm); (case qhk4 => k_asm); (case qhk5 => k_asm); (case qhk6 => first | exact rfl | assumption); (case qhk7 => ktr_room); (case qhk8 => ktr_units); k_whole); intro t' h' tk' F' N'; (try k_sweep)) | (k_here; (with_reducible show wpAny _ _ (call (Value.ref 102) [Value.bool _, Value.str _ _]) _ _ _); k_dflt (refine' want_call ?qhk1 ?qhk2 ?qhk3 ?qhk4 ?qhk5 ?qhk6 ?qhk7 ?qhk8 ?_ ?_; (case qhk1 => k_asm); (case qhk2 => k_asm); (case qhk3 => k_asm); (case qhk4 => k_asm); (case qhk5 => k_asm); (case qhk6 => first | exact rfl | assumption); (case qhk7 => ktr_room); (case qhk8 => ktr_units); k_whole); all_goals (intro hb; first | (exfalso; ((simp only [decide_eq_true_eq, decide_eq_false_iff_not] at hb) <;> omega); done) | ((try simp only [decide_eq_true_eq, decide_eq_false_iff_not] at hb); first | intro g' h' tk' e' F' R' U' | (intro h' tk' F' N'; (try k_sweep))))) | (k_here; (with_reducible show wpAny _ _ (call (Value.ref 130) [Value.ref _]) _ _ _); k_dflt (refine' comp_call ?qhk1 ?qhk2 ?qhk3 ?qhk4 ?qhk5 ?qhk6 ?qhk7 ?qhk8 ?qhk9 ?_ ?_; (case qhk9 => assumption); (case qhk1 => k_asm); (case qhk2 => k_asm); (case qhk3 => k_asm); (case qhk4 => k_asm); (case qhk5 => k_asm); (case qhk6 => first | exact rfl | assumption); (case qhk7 => ktr_room); (case qhk8 => ktr_units); k_whole); all_goals (first | (intro msg' hb g' h' tk' e' F' R' U') | (intro hb h' tk' F' N'; (try k_sweep))))) | ((with_reducible show wpAny _ _ (call (Value.builtin "len") _) _ _ _); first | (k_here; k_dflt (refine' kst_len ?qhk1 ?qhk2 (CompsAt.len (by assumption)) ?qhk3 ?_; (case qhk1 => k_asm); (case qhk2 => assumption); (case qhk3 => omega); k_whole)))))) | ((with_reducible show wpAny _ _ (call (Value.ref _) _) _ _ _); (k_here; (with_reducible show wpAny _ _ (call (Value.ref 123) [Value.ref _]) _ _ _); k_dflt (refine' unlike_any ?qhk1 ?qhk2 ?qhk3 ?qhk4 ?qhk5 ?qhk6 ?qhk7 ?qhk8 ?qhkl ?qhk9 ?qhk10 ?qhk11 ?_; (case qhk9 => assumption); (case qhk1 => k_asm); (case qhk2 => k_asm); (case qhk3 => k_asm); (case qhk4 => k_asm); (case qhk5 => k_asm); (case qhk6 => first | exact rfl | assumption); (case qhk7 => ktr_room); (case qhk8 => ktr_units); (case qhkl => exact .head _); (case qhk10 => (rw [List.length_map]; omega)); (case qhk11 => (rw [List.length_map]; omega)); k_whole); intro h' tk' F' N'; (try k_sweep))) | ((with_reducible show wpAny _ _ (call (Value.builtin "len") _) _ _ _); (k_here; k_dflt (refine' kst_len ?qhk1 ?qhk2 (CompsAt.len (by assumption)) ?qhk3 ?_; (case qhk1 => k_asm); (case qhk2 => assumption); (case qhk3 => omega); k_whole))) | ((with_reducible show wpAny _ _ (leaving _ _) _ _ _); (k_here; (refine' leave_onD ?qhk1 ?qhk2 ?qhk3 ?qhk4 ?_; (case qhk3 => assumption); (case qhk2 => assumption); (case qhk1 => assumption); (case qhk4 => assumption); k_whole; intro h' R' U'; (try dsimp only at R' U' ⊢)))) | ((with_reducible show wpAny _ _ (call (Value.ref _) _) _ _ _); (k_here; (with_reducible show wpAny _ _ (call (Value.ref 116) [Value.int _ _, Value.int _ _]) _ _ _); k_dflt (refine' isprec_call ?qhk1 ?qhk2 ?qhk3 ?qhk4 ?qhk5 ?qhk6 ?qhk7 ?qhk8 ?_; (case qhk1 => k_asm); (case qhk2 => k_asm); (case qhk3 => k_asm); (case qhk4 => k_asm); (case qhk5 => k_asm); (case qhk6 => first | exact rfl | assumption); (case qhk7 => ktr_room); (case qhk8 => ktr_units); k_whole); intro t' h' tk' F' N'; (try k_sweep))) | ((with_reducible show wpAny _ _ (call (Value.ref _) _) _ _ _); (k_here; (with_reducible show wpAny _ _ (call (Value.ref 53) [Value.int _ _]) _ _ _); k_dflt (refine' isframe_call ?qhk1 ?qhk2 ?qhk3 ?qhk4 ?qhk5 ?qhk6 ?qhk7 ?qhk8 ?_; (case qhk1 => k_asm); (case qhk2 => k_asm); (case qhk3 => k_asm); (case qhk4 => k_asm); (case qhk5 => k_asm); (case qhk6 => first | exact rfl | assumption); (case qhk7 => ktr_room); (case qhk8 => ktr_units); k_whole); intro t' h' tk' F' N'; (try k_sweep))) | ((with_reducible show wpAny _ _ (call (Value.ref _) _) _ _ _); (k_here; (with_reducible show wpAny _ _ (call (Value.ref 102) [Value.bool _, Value.str _ _]) _ _ _); k_dflt (refine' want_call ?qhk1 ?qhk2 ?qhk3 ?qhk4 ?qhk5 ?qhk6 ?qhk7 ?qhk8 ?_ ?_; (case qhk1 => k_asm); (case qhk2 => k_asm); (case qhk3 => k_asm); (case qhk4 => k_asm); (case qhk5 => k_asm); (case qhk6 => first | exact rfl | assumption); (case qhk7 => ktr_room); (case qhk8 => ktr_units); k_whole); all_goals (intro hb; first | (exfalso; ((simp only [decide_eq_true_eq, decide_eq_false_iff_not] at hb) <;> omega); done) | ((try simp only [decide_eq_true_eq, decide_eq_false_iff_not] at hb); first | intro g' h' tk' e' F' R' U' | (intro h' tk' F' N'; (try k_sweep)))))) | ((with_reducible show wpAny _ _ (eval (PySem.Expr.ListComp _ _ _ _) _) _ _ _); (k_here; k_dflt (refine LCg.ListComp_U (F₀ := by k_asm) (by rfl) (by decide) (by rfl) (by decide) (by rfl) ?_))) | ((with_reducible show wpAny _ _ (call (Value.ref _) _) _ _ _); (k_here; (with_reducible show wpAny _ _ (call (Value.ref 130) [Value.ref _]) _ _ _); k_dflt (refine' comp_call ?qhk1 ?qhk2 ?qhk3 ?qhk4 ?qhk5 ?qhk6 ?qhk7 ?qhk8 ?qhk9 ?_ ?_; (case qhk9 => assumption); (case qhk1 => k_asm); (case qhk2 => k_asm); (case qhk3 => k_asm); (case qhk4 => k_asm); (case qhk5 => k_asm); (case qhk6 => first | exact rfl | assumption); (case qhk7 => ktr_room); (case qhk8 => ktr_units); k_whole); all_goals (first | (intro msg' hb g' h' tk' e' F' R' U') | (intro hb h' tk' F' N'; (try k_sweep)))))) | ((first | with_reducible show wpAny _ _ (eval (PySem.Expr.Call _ _ _ _) _) _ _ _ | with_reducible show wpAny _ _ (eval (PySem.Expr.List _ _) _) _ _ _ | with_reducible show wpAny _ _ (eval (PySem.Expr.Tuple _ _ _) _) _ _ _ | with_reducible show wpAny _ _ (eval (PySem.Expr.Subscript _ _ _) _) _ _ _ | with_reducible show wpAny _ _ (eval (PySem.Expr.BinOp _ _ _ _) _) _ _ _); refine qfold ?_; intro q9; walk1) | walk1 | (dsimp only; walk1) | (leave1; walk_say "STEP leave1"; try dsimp only) | fail "no step"))
      refine LCg.CompSrc.ledger (by rfl) (by assumption) (by assumption) hl (by rw [List.size_toArray, sizeLine_eq]; omega) fun g9 => ?_
      refine comp_rest xs.toArray.size (fun i ys nw => nw = news ∧ IntsAt ys ((rows.map (·.1)).take i)) ?step ?fin _ 0 [] _ (Nat.zero_add _) ⟨rfl, trivial⟩
      case step =>
        rintro i ys nw hin ⟨rfl, hys⟩ v I oI C oC D m₂ h8 tk8 E' hP hC hx F8 N8 ho hne'
        have hlt : i < rows.length := by
          rw [List.size_toArray] at hin
          omega
        obtain ⟨x, hx', hcx⟩ := hc.2 i rows[i] (List.getElem?_eq_getElem hlt)
        have hv : v = Value.ref x := by
          rw [List.getElem?_toArray] at hP
          rw [hx'] at hP
          exact (Option.some.inj hP).symm
        subst hv
        obtain ⟨dx, k1, k2, k3, k4, k5, k6, k7, k8, m1, m2⟩ := hcx
        have m1' := List.mem_cons_of_mem (I, oI) (List.mem_cons_of_mem (C, oC) (List.mem_cons_of_mem (D, LCg.lst ys) m1))
        have m2' := List.mem_cons_of_mem (I, oI) (List.mem_cons_of_mem (C, oC) (List.mem_cons_of_mem (D, LCg.lst ys) m2))
        clear m1 m2
        (repeat' (first | (k_unfold; (try dsimp only)) | (k_end; wrow_close) | (first | (with_reducible (first | ((with_reducible show wpAny _ _ (eval (PySem.Expr.ListComp _ _ _ _) _) _ _ _); first | (k_here; k_dflt (refine LCg.ListComp_U (F₀ := by k_asm) (by rfl) (by decide) (by rfl) (by decide) (by rfl) ?_))) | ((with_reducible show wpAny _ _ (leaving _ _) _ _ _); first | (k_here; (refine' leave_onD ?qhk1 ?qhk2 ?qhk3 ?qhk4 ?_; (case qhk3 => assumption); (case qhk2 => assumption); (case qhk1 => assumption); (case qhk4 => assumption); k_whole; intro h' R' U'; (try dsimp only at R' U' ⊢)))) | ((with_reducible show wpAny _ _ (call _ _) _ _ _); first | ((with_reducible show wpAny _ _ (call (Value.ref _) _) _ _ _); first | (k_here; (with_reducible show wpAny _ _ (call (Value.ref 123) [Value.ref _]) _ _ _); k_dflt (refine' unlike_any ?qhk1 ?qhk2 ?qhk3 ?qhk4 ?qhk5 ?qhk6 ?qhk7 ?qhk8 ?qhkl ?qhk9 ?qhk10 ?qhk11 ?_; (case qhk9 => assumption); (case qhk1 => k_asm); (case qhk2 => k_asm); (case qhk3 => k_asm); (case qhk4 => k_asm); (case qhk5 => k_asm); (case qhk6 => first | exact rfl | assumption); (case qhk7 => ktr_room); (case qhk8 => ktr_units); (case qhkl => exact .head _); (case qhk10 => (rw [List.length_map]; omega)); (case qhk11 => (rw [List.length_map]; omega)); k_whole); intro h' tk' F' N'; (try k_sweep)) | (k_here; (with_reducible show wpAny _ _ (call (Value.ref 116) [Value.int _ _, Value.int _ _]) _ _ _); k_dflt (refine' isprec_call ?qhk1 ?qhk2 ?qhk3 ?qhk4 ?qhk5 ?qhk6 ?qhk7 ?qhk8 ?_; (case qhk1 => k_asm); (case qhk2 => k_asm); (case qhk3 => k_asm); (case qhk4 => k_asm); (case qhk5 => k_asm); (case qhk6 => first | exact rfl | assumption); (case qhk7 => ktr_room); (case qhk8 => ktr_units); k_whole); intro t' h' tk' F' N'; (try k_sweep)) | (k_here; (with_reducible show wpAny _ _ (call (Value.ref 53) [Value.int _ _]) _ _ _); k_dflt (refine' isframe_call ?qhk1 ?qhk2 ?qhk3 ?qhk4 ?qhk5 ?qhk6 ?qhk7 ?qhk8 ?_; (case qhk1 => k_asm); (case qhk2 => k_asm); (case qhk3 => k_asm); (case qhk4 => k_asm); (case qhk5 => k_asm); (case qhk6 => first | exact rfl | assumption); (case qhk7 => ktr_room); (case qhk8 => ktr_units); k_whole); intro t' h' tk' F' N'; (try k_sweep)) | (k_here; (with_reducible show wpAny _ _ (call (Value.ref 102) [Value.bool _, Value.str _ _]) _ _ _); k_dflt (refine' want_call ?qhk1 ?qhk2 ?qhk3 ?qhk4 ?qhk5 ?qhk6 ?qhk7 ?qhk8 ?_ ?_; (case qhk1 => k_asm); (case qhk2 => k_asm); (case qhk3 => k_asm); (case qhk4 => k_asm); (case qhk5 => k_asm); (case qhk6 => first | exact rfl | assumption); (case qhk7 => ktr_room); (case qhk8 => ktr_units); k_whole); all_goals (intro hb; first | (exfalso; ((simp only [decide_eq_true_eq, decide_eq_false_iff_not] at hb) <;> omega); done) | ((try simp only [decide_eq_true_eq, decide_eq_false_iff_not] at hb); first | intro g' h' tk' e' F' R' U' | (intro h' tk' F' N'; (try k_sweep))))) | (k_here; (with_reducible show wpAny _ _ (call (Value.ref 130) [Value.ref _]) _ _ _); k_dflt (refine' comp_call ?qhk1 ?qhk2 ?qhk3 ?qhk4 ?qhk5 ?qhk6 ?qhk7 ?qhk8 ?qhk9 ?_ ?_; (case qhk9 => assumption); (case qhk1 => k_asm); (case qhk2 => k_asm); (case qhk3 => k_asm); (case qhk4 => k_asm); (case qhk5 => k_asm); (case qhk6 => first | exact rfl | assumption); (case qhk7 => ktr_room); (case qhk8 => ktr_units); k_whole); all_goals (first | (intro msg' hb g' h' tk' e' F' R' U') | (intro hb h' tk' F' N'; (try k_sweep))))) | ((with_reducible show wpAny _ _ (call (Value.builtin "len") _) _ _ _); first | (k_here; k_dflt (refine' kst_len ?qhk1 ?qhk2 (CompsAt.len (by assumption)) ?qhk3 ?_; (case qhk1 => k_asm); (case qhk2 => assumption); (case qhk3 => omega); k_whole)))))) | ((with_reducible show wpAny _ _ (call (Value.ref _) _) _ _ _); (k_here; (with_reducible show wpAny _ _ (call (Value.ref 123) [Value.ref _]) _ _ _); k_dflt (refine' unlike_any ?qhk1 ?qhk2 ?qhk3 ?qhk4 ?qhk5 ?qhk6 ?qhk7 ?qhk8 ?qhkl ?qhk9 ?qhk10 ?qhk11 ?_; (case qhk9 => assumption); (case qhk1 => k_asm); (case qhk2 => k_asm); (case qhk3 => k_asm); (case qhk4 => k_asm); (case qhk5 => k_asm); (case qhk6 => first | exact rfl | assumption); (case qhk7 => ktr_room); (case qhk8 => ktr_units); (case qhkl => exact .head _); (case qhk10 => (rw [List.length_map]; omega)); (case qhk11 => (rw [List.length_map]; omega)); k_whole); intro h' tk' F' N'; (try k_sweep))) | ((with_reducible show wpAny _ _ (call (Value.builtin "len") _) _ _ _); (k_here; k_dflt (refine' kst_len ?qhk1 ?qhk2 (CompsAt.len (by assumption)) ?qhk3 ?_; (case qhk1 => k_asm); (case qhk2 => assumption); (case qhk3 => omega); k_whole))) | ((with_reducible show wpAny _ _ (leaving _ _) _ _ _); (k_here; (refine' leave_onD ?qhk1 ?qhk2 ?qhk3 ?qhk4 ?_; (case qhk3 => assumption); (case qhk2 => assumption); (case qhk1 => assumption); (case qhk4 => assumption); k_whole; intro h' R' U'; (try dsimp only at R' U' ⊢)))) | ((with_reducible show wpAny _ _ (call (Value.ref _) _) _ _ _); (k_here; (with_reducible show wpAny _ _ (call (Value.ref 116) [Value.int _ _, Value.int _ _]) _ _ _); k_dflt (refine' isprec_call ?qhk1 ?qhk2 ?qhk3 ?qhk4 ?qhk5 ?qhk6 ?qhk7 ?qhk8 ?_; (case qhk1 => k_asm); (case qhk2 => k_asm); (case qhk3 => k_asm); (case qhk4 => k_asm); (case qhk5 => k_asm); (case qhk6 => first | exact rfl | assumption); (case qhk7 => ktr_room); (case qhk8 => ktr_units); k_whole); intro t' h' tk' F' N'; (try k_sweep))) | ((with_reducible show wpAny _ _ (call (Value.ref _) _) _ _ _); (k_here; (with_reducible show wpAny _ _ (call (Value.ref 53) [Value.int _ _]) _ _ _); k_dflt (refine' isframe_call ?qhk1 ?qhk2 ?qhk3 ?qhk4 ?qhk5 ?qhk6 ?qhk7 ?qhk8 ?_; (case qhk1 => k_asm); (case qhk2 => k_asm); (case qhk3 => k_asm); (case qhk4 => k_asm); (case qhk5 => k_asm); (case qhk6 => first | exact rfl | assumption); (case qhk7 => ktr_room); (case qhk8 => ktr_units); k_whole); intro t' h' tk' F' N'; (try k_sweep))) | ((with_reducible show wpAny _ _ (call (Value.ref _) _) _ _ _); (k_here; (with_reducible show wpAny _ _ (call (Value.ref 102) [Value.bool _, Value.str _ _]) _ _ _); k_dflt (refine' want_call ?qhk1 ?qhk2 ?qhk3 ?qhk4 ?qhk5 ?qhk6 ?qhk7 ?qhk8 ?_ ?_; (case qhk1 => k_asm); (case qhk2 => k_asm); (case qhk3 => k_asm); (case qhk4 => k_asm); (case qhk5 => k_asm); (case qhk6 => first | exact rfl | assumption); (case qhk7 => ktr_room); (case qhk8 => ktr_units); k_whole); all_goals (intro hb; first | (exfalso; ((simp only [decide_eq_true_eq, decide_eq_false_iff_not] at hb) <;> omega); done) | ((try simp only [decide_eq_true_eq, decide_eq_false_iff_not] at hb); first | intro g' h' tk' e' F' R' U' | (intro h' tk' F' N'; (try k_sweep)))))) | ((with_reducible show wpAny _ _ (eval (PySem.Expr.ListComp _ _ _ _) _) _ _ _); (k_here; k_dflt (refine LCg.ListComp_U (F₀ := by k_asm) (by rfl) (by decide) (by rfl) (by decide) (by rfl) ?_))) | ((with_reducible show wpAny _ _ (call (Value.ref _) _) _ _ _); (k_here; (with_reducible show wpAny _ _ (call (Value.ref 130) [Value.ref _]) _ _ _); k_dflt (refine' comp_call ?qhk1 ?qhk2 ?qhk3 ?qhk4 ?qhk5 ?qhk6 ?qhk7 ?qhk8 ?qhk9 ?_ ?_; (case qhk9 => assumption); (case qhk1 => k_asm); (case qhk2 => k_asm); (case qhk3 => k_asm); (case qhk4 => k_asm); (case qhk5 => k_asm); (case qhk6 => first | exact rfl | assumption); (case qhk7 => ktr_room); (case qhk8 => ktr_units); k_whole); all_goals (first | (intro msg' hb g' h' tk' e' F' R' U') | (intro hb h' tk' F' N'; (try k_sweep)))))) | ((first | with_reducible show wpAny _ _ (eval (PySem.Expr.Call _ _ _ _) _) _ _ _ | with_reducible show wpAny _ _ (eval (PySem.Expr.List _ _) _) _ _ _ | with_reducible show wpAny _ _ (eval (PySem.Expr.Tuple _ _ _) _) _ _ _ | with_reducible show wpAny _ _ (eval (PySem.Expr.Subscript _ _ _) _) _ _ _ | with_reducible show wpAny _ _ (eval (PySem.Expr.BinOp _ _ _ _) _) _ _ _); refine qfold ?_; intro q9; walk1) | walk1 | (dsimp only; walk1) | (leave1; walk_say "STEP leave1"; try dsimp only) | fail "no step"))
        refine LCg.CompEnd.intro (by assumption) (by assumption) nw (fun p hp => hp) ho (.inr ⟨_, hl, rfl, _, rfl⟩) ⟨rfl, ?_⟩
        have hlt' : i < (rows.map (·.1)).length := by rw [List.length_map]; exact hlt
        rw [List.take_succ_eq_append_getElem hlt', List.getElem_map]
        exact IntsAt.snoc hys
      case fin =>
        rintro ys nw ⟨rfl, hys⟩
        have hys' : IntsAt ys (rows.map (·.1)) := by
          rw [List.take_of_length_le (by rw [List.length_map, List.size_toArray]; omega)] at hys
          exact hys
        intro D h8 tk8 F8 N8 o8
        (repeat' (first | (k_unfold; (try dsimp only)) | (k_end; wrow_close) | (first | (with_reducible (first | ((with_reducible show wpAny _ _ (eval (PySem.Expr.ListComp _ _ _ _) _) _ _ _); first | (k_here; k_dflt (refine LCg.ListComp_U (F₀ := by k_asm) (by rfl) (by decide) (by rfl) (by decide) (by rfl) ?_))) | ((with_reducible show wpAny _ _ (leaving _ _) _ _ _); first | (k_here; (refine' leave_onD ?qhk1 ?qhk2 ?qhk3 ?qhk4 ?_; (case qhk3 => assumption); (case qhk2 => assumption); (case qhk1 => assumption); (case qhk4 => assumption); k_whole; intro h' R' U'; (try dsimp only at R' U' ⊢)))) | ((with_reducible show wpAny _ _ (call _ _) _ _ _); first | ((with_reducible show wpAny _ _ (call (Value.ref _) _) _ _ _); first | (k_here; (with_reducible show wpAny _ _ (call (Value.ref 123) [Value.ref _]) _ _ _); k_dflt (refine' unlike_any ?qhk1 ?qhk2 ?qhk3 ?qhk4 ?qhk5 ?qhk6 ?qhk7 ?qhk8 ?qhkl ?qhk9 ?qhk10 ?qhk11 ?_; (case qhk9 => assumption); (case qhk1 => k_asm); (case qhk2 => k_asm); (case qhk3 => k_asm); (case qhk4 => k_asm); (case qhk5 => k_asm); (case qhk6 => first | exact rfl | assumption); (case qhk7 => ktr_room); (case qhk8 => ktr_units); (case qhkl => exact .head _); (case qhk10 => (rw [List.length_map]; omega)); (case qhk11 => (rw [List.length_map]; omega)); k_whole); intro h' tk' F' N'; (try k_sweep)) | (k_here; (with_reducible show wpAny _ _ (call (Value.ref 116) [Value.int _ _, Value.int _ _]) _ _ _); k_dflt (refine' isprec_call ?qhk1 ?qhk2 ?qhk3 ?qhk4 ?qhk5 ?qhk6 ?qhk7 ?qhk8 ?_; (case qhk1 => k_asm); (case qhk2 => k_asm); (case qhk3 => k_asm); (case qhk4 => k_asm); (case qhk5 => k_asm); (case qhk6 => first | exact rfl | assumption); (case qhk7 => ktr_room); (case qhk8 => ktr_units); k_whole); intro t' h' tk' F' N'; (try k_sweep)) | (k_here; (with_reducible show wpAny _ _ (call (Value.ref 53) [Value.int _ _]) _ _ _); k_dflt (refine' isframe_call ?qhk1 ?qhk2 ?qhk3 ?qhk4 ?qhk5 ?qhk6 ?qhk7 ?qhk8 ?_; (case qhk1 => k_asm); (case qhk2 => k_asm); (case qhk3 => k_asm); (case qhk4 => k_asm); (case qhk5 => k_asm); (case qhk6 => first | exact rfl | assumption); (case qhk7 => ktr_room); (case qhk8 => ktr_units); k_whole); intro t' h' tk' F' N'; (try k_sweep)) | (k_here; (with_reducible show wpAny _ _ (call (Value.ref 102) [Value.bool _, Value.str _ _]) _ _ _); k_dflt (refine' want_call ?qhk1 ?qhk2 ?qhk3 ?qhk4 ?qhk5 ?qhk6 ?qhk7 ?qhk8 ?_ ?_; (case qhk1 => k_asm); (case qhk2 => k_asm); (case qhk3 => k_asm); (case qhk4 => k_asm); (case qhk5 => k_asm); (case qhk6 => first | exact rfl | assumption); (case qhk7 => ktr_room); (case qhk8 => ktr_units); k_whole); all_goals (intro hb; first | (exfalso; ((simp only [decide_eq_true_eq, decide_eq_false_iff_not] at hb) <;> omega); done) | ((try simp only [decide_eq_true_eq, decide_eq_false_iff_not] at hb); first | intro g' h' tk' e' F' R' U' | (intro h' tk' F' N'; (try k_sweep))))) | (k_here; (with_reducible show wpAny _ _ (call (Value.ref 130) [Value.ref _]) _ _ _); k_dflt (refine' comp_call ?qhk1 ?qhk2 ?qhk3 ?qhk4 ?qhk5 ?qhk6 ?qhk7 ?qhk8 ?qhk9 ?_ ?_; (case qhk9 => assumption); (case qhk1 => k_asm); (case qhk2 => k_asm); (case qhk3 => k_asm); (case qhk4 => k_asm); (case qhk5 => k_asm); (case qhk6 => first | exact rfl | assumption); (case qhk7 => ktr_room); (case qhk8 => ktr_units); k_whole); all_goals (first | (intro msg' hb g' h' tk' e' F' R' U') | (intro hb h' tk' F' N'; (try k_sweep))))) | ((with_reducible show wpAny _ _ (call (Value.builtin "len") _) _ _ _); first | (k_here; k_dflt (refine' kst_len ?qhk1 ?qhk2 (CompsAt.len (by assumption)) ?qhk3 ?_; (case qhk1 => k_asm); (case qhk2 => assumption); (case qhk3 => omega); k_whole)))))) | ((with_reducible show wpAny _ _ (call (Value.ref _) _) _ _ _); (k_here; (with_reducible show wpAny _ _ (call (Value.ref 123) [Value.ref _]) _ _ _); k_dflt (refine' unlike_any ?qhk1 ?qhk2 ?qhk3 ?qhk4 ?qhk5 ?qhk6 ?qhk7 ?qhk8 ?qhkl ?qhk9 ?qhk10 ?qhk11 ?_; (case qhk9 => assumption); (case qhk1 => k_asm); (case qhk2 => k_asm); (case qhk3 => k_asm); (case qhk4 => k_asm); (case qhk5 => k_asm); (case qhk6 => first | exact rfl | assumption); (case qhk7 => ktr_room); (case qhk8 => ktr_units); (case qhkl => exact .head _); (case qhk10 => (rw [List.length_map]; omega)); (case qhk11 => (rw [List.length_map]; omega)); k_whole); intro h' tk' F' N'; (try k_sweep))) | ((with_reducible show wpAny _ _ (call (Value.builtin "len") _) _ _ _); (k_here; k_dflt (refine' kst_len ?qhk1 ?qhk2 (CompsAt.len (by assumption)) ?qhk3 ?_; (case qhk1 => k_asm); (case qhk2 => assumption); (case qhk3 => omega); k_whole))) | ((with_reducible show wpAny _ _ (leaving _ _) _ _ _); (k_here; (refine' leave_onD ?qhk1 ?qhk2 ?qhk3 ?qhk4 ?_; (case qhk3 => assumption); (case qhk2 => assumption); (case qhk1 => assumption); (case qhk4 => assumption); k_whole; intro h' R' U'; (try dsimp only at R' U' ⊢)))) | ((with_reducible show wpAny _ _ (call (Value.ref _) _) _ _ _); (k_here; (with_reducible show wpAny _ _ (call (Value.ref 116) [Value.int _ _, Value.int _ _]) _ _ _); k_dflt (refine' isprec_call ?qhk1 ?qhk2 ?qhk3 ?qhk4 ?qhk5 ?qhk6 ?qhk7 ?qhk8 ?_; (case qhk1 => k_asm); (case qhk2 => k_asm); (case qhk3 => k_asm); (case qhk4 => k_asm); (case qhk5 => k_asm); (case qhk6 => first | exact rfl | assumption); (case qhk7 => ktr_room); (case qhk8 => ktr_units); k_whole); intro t' h' tk' F' N'; (try k_sweep))) | ((with_reducible show wpAny _ _ (call (Value.ref _) _) _ _ _); (k_here; (with_reducible show wpAny _ _ (call (Value.ref 53) [Value.int _ _]) _ _ _); k_dflt (refine' isframe_call ?qhk1 ?qhk2 ?qhk3 ?qhk4 ?qhk5 ?qhk6 ?qhk7 ?qhk8 ?_; (case qhk1 => k_asm); (case qhk2 => k_asm); (case qhk3 => k_asm); (case qhk4 => k_asm); (case qhk5 => k_asm); (case qhk6 => first | exact rfl | assumption); (case qhk7 => ktr_room); (case qhk8 => ktr_units); k_whole); intro t' h' tk' F' N'; (try k_sweep))) | ((with_reducible show wpAny _ _ (call (Value.ref _) _) _ _ _); (k_here; (with_reducible show wpAny _ _ (call (Value.ref 102) [Value.bool _, Value.str _ _]) _ _ _); k_dflt (refine' want_call ?qhk1 ?qhk2 ?qhk3 ?qhk4 ?qhk5 ?qhk6 ?qhk7 ?qhk8 ?_ ?_; (case qhk1 => k_asm); (case qhk2 => k_asm); (case qhk3 => k_asm); (case qhk4 => k_asm); (case qhk5 => k_asm); (case qhk6 => first | exact rfl | assumption); (case qhk7 => ktr_room); (case qhk8 => ktr_units); k_whole); all_goals (intro hb; first | (exfalso; ((simp only [decide_eq_true_eq, decide_eq_false_iff_not] at hb) <;> omega); done) | ((try simp only [decide_eq_true_eq, decide_eq_false_iff_not] at hb); first | intro g' h' tk' e' F' R' U' | (intro h' tk' F' N'; (try k_sweep)))))) | ((with_reducible show wpAny _ _ (eval (PySem.Expr.ListComp _ _ _ _) _) _ _ _); (k_here; k_dflt (refine LCg.ListComp_U (F₀ := by k_asm) (by rfl) (by decide) (by rfl) (by decide) (by rfl) ?_))) | ((with_reducible show wpAny _ _ (call (Value.ref _) _) _ _ _); (k_here; (with_reducible show wpAny _ _ (call (Value.ref 130) [Value.ref _]) _ _ _); k_dflt (refine' comp_call ?qhk1 ?qhk2 ?qhk3 ?qhk4 ?qhk5 ?qhk6 ?qhk7 ?qhk8 ?qhk9 ?_ ?_; (case qhk9 => assumption); (case qhk1 => k_asm); (case qhk2 => k_asm); (case qhk3 => k_asm); (case qhk4 => k_asm); (case qhk5 => k_asm); (case qhk6 => first | exact rfl | assumption); (case qhk7 => ktr_room); (case qhk8 => ktr_units); k_whole); all_goals (first | (intro msg' hb g' h' tk' e' F' R' U') | (intro hb h' tk' F' N'; (try k_sweep)))))) | ((first | with_reducible show wpAny _ _ (eval (PySem.Expr.Call _ _ _ _) _) _ _ _ | with_reducible show wpAny _ _ (eval (PySem.Expr.List _ _) _) _ _ _ | with_reducible show wpAny _ _ (eval (PySem.Expr.Tuple _ _ _) _) _ _ _ | with_reducible show wpAny _ _ (eval (PySem.Expr.Subscript _ _ _) _) _ _ _ | with_reducible show wpAny _ _ (eval (PySem.Expr.BinOp _ _ _ _) _) _ _ _); refine qfold ?_; intro q9; walk1) | walk1 | (dsimp only; walk1) | (leave1; walk_say "STEP leave1"; try dsimp only) | fail "no step"))
        · exact hret (fm_0 (by assumption) (by assumption) ⟨by assumption, by assumption⟩ ⟨by assumption, by assumption⟩ (by omega) hnone (by assumption)) _ _ (by assumption) (cb_drop (by assumption) fun p hp => List.mem_cons_of_mem _ hp)
        · exact hE _ (fm_7 (by assumption) (by assumption) ⟨by assumption, by assumption⟩ ⟨by assumption, by assumption⟩ (by omega) hnone (by assumption)) _ _ _ _ (by assumption) (RaisedD.drop (by assumption) fun p hp => List.mem_cons_of_mem _ hp) (by assumption)
  all_goals (refine' hE _ ?c _ _ _ _ ?f ?r ?u; (case f => assumption); (case r => assumption); (case u => assumption); (case c => first | exact fm_1 (by assumption) | exact fm_2 (by assumption) (by assumption) | exact fm_3 (by assumption) (by assumption) (by omega) | exact fm_4 (by assumption) (by assumption) (by omega) (by omega) | exact fm_5 (by assumption) (by assumption) (by omega) (by omega) (by omega)))
end Mine
end
section
open PySem PySem.W PyProof.Rows PySem.Calls
namespace Mine
set_option maxRecDepth 100000
abbrev rowObj (c : Row) (t1 t2 t3 t4 : Tok) : Obj := tupObj [.int c.1 t1, .int c.2.1 t2, .int c.2.2.1 t3, .int c.2.2.2 t4]
def RowAt (news : List (Addr × Obj)) (v : Value) (c : Row) : Prop := ∃ (r : Addr) (t1 t2 t3 t4 : Tok), v = Value.ref r ∧ (r, rowObj c t1 t2 t3 t4) ∈ news
def RowsAt (news : List (Addr × Obj)) (vs : List Value) (rows : List Row) : Prop := vs.length = rows.length ∧ ∀ (i : Nat) (c : Row), rows[i]? = some c → ∃ v, vs[i]? = some v ∧ RowAt news v c
def toldS (code prec h w : Int) (rows : List Row) : Str := (frameMsg code prec h w rows).getD (PySem.Str.ofString "")
theorem CompsAt.mono {P : Params} {news news' : List (Addr × Obj)} {xs : List Value} {rows : List Row} (h : CompsAt P news xs rows) (hs : ∀ p ∈ news, p ∈ news') : CompsAt P news' xs rows :=
  ⟨h.1, fun i c hc => by
    obtain ⟨x, hx, hq⟩ := h.2 i c hc
    exact ⟨x, hx, hq.mono hs⟩⟩
theorem told_0 {code prec h w : Int} {rows : List Row} (q : frameMsg code prec h w rows = none) : PySem.Str.ofString "" = toldS code prec h w rows := by unfold toldS; rw [q]; rfl
theorem told_1 {code prec h w : Int} {rows : List Row} {msg : Str} (q : frameMsg code prec h w rows = some msg) : msg = toldS code prec h w rows := by unfold toldS; rw [q]; rfl
theorem comp_made {P : Params} {g : Heap} {L I C D lr x dx : Addr} {m : Str → Option Value} {s₁ : Shared} {oI oC : Obj} {ys vs : List Value} {own news : List (Addr × Obj)} {rows : List Row} {c : Row} {i k : Nat} {h' : Heap} {tk : Nat} {k1 k2 k3 k4 k5 k6 k7 k8 : Tok}
    (F : Fr g L h' m) (N : News g L h' ((x, instObj 70 dx) :: (dx, compDict P c.1 c.2.1 c.2.2.1 c.2.2.2 k1 k2 k3 k4 k5 k6 k7 k8) :: (I, oI) :: (C, oC) :: (D, LCg.lst ys) :: (own ++ news)))
    (l1 : ∀ p ∈ (I, oI) :: (C, oC) :: (D, LCg.lst ys) :: (own ++ news), p.1 < dx) (l2 : dx < x) (ho : LCg.Off3 I C D (own ++ news)) (hl : (lr, listOf vs.toArray k) ∈ news) (hys : ys.length = i)
    (hall : ∀ (j : Nat) (c : Row), j < i → rows[j]? = some c → ∃ x : Addr, ys[j]? = some (Value.ref x) ∧ CompAt P (own ++ news) x c) (hc : rows[i]? = some c) :
    LCg.CompEnd g L m s₁ I oI C oC D (LCg.lst ys) (LCg.SrcAt g lr vs.toArray) (fun y nw => (∃ own, nw = own ++ news) ∧ (ys ++ [y]).length = i + 1 ∧ ∀ (j : Nat) (c : Row), j < i + 1 → rows[j]? = some c → ∃ x : Addr, (ys ++ [y])[j]? = some (Value.ref x) ∧ CompAt P nw x c) (Value.ref x) { s₁ with heap := h', toks := tk } := by
  have hI : I < dx := l1 (I, oI) (.head _)
  have hC : C < dx := l1 (C, oC) (.tail _ (.head _))
  have hD : D < dx := l1 (D, LCg.lst ys) (.tail _ (.tail _ (.head _)))
  have hI2 := Nat.lt_trans hI l2
  have hC2 := Nat.lt_trans hC l2
  have hD2 := Nat.lt_trans hD l2
  refine LCg.CompEnd.intro F N ((x, instObj 70 dx) :: (dx, compDict P c.1 c.2.1 c.2.2.1 c.2.2.2 k1 k2 k3 k4 k5 k6 k7 k8) :: (own ++ news)) ?_ ⟨⟨(Nat.ne_of_lt hI2).symm, (Nat.ne_of_lt hC2).symm, (Nat.ne_of_lt hD2).symm⟩, ⟨(Nat.ne_of_lt hI).symm, (Nat.ne_of_lt hC).symm, (Nat.ne_of_lt hD).symm⟩, ho⟩
    (.inr ⟨_, .tail _ (.tail _ (List.mem_append_right _ hl)), rfl, _, rfl⟩) ⟨⟨(x, instObj 70 dx) :: (dx, compDict P c.1 c.2.1 c.2.2.1 c.2.2.2 k1 k2 k3 k4 k5 k6 k7 k8) :: own, rfl⟩, by rw [List.length_append, hys]; rfl, ?_⟩
  · intro p hp
    rcases List.mem_cons.mp hp with rfl | hp
    · exact .tail _ (.tail _ (.head _))
    rcases List.mem_cons.mp hp with rfl | hp
    · exact .tail _ (.tail _ (.tail _ (.head _)))
    rcases List.mem_cons.mp hp with rfl | hp
    · exact .tail _ (.tail _ (.tail _ (.tail _ (.head _))))
    rcases List.mem_cons.mp hp with rfl | hp
    · exact .head _
    rcases List.mem_cons.mp hp with rfl | hp
    · exact .tail _ (.head _)
    exact .tail _ (.tail _ (.tail _ (.tail _ (.tail _ hp))))
  · intro j c' hj hc'
    rcases Nat.lt_succ_iff_lt_or_eq.mp hj with q | rfl
    · obtain ⟨x', hx', hq⟩ := hall j c' q hc'
      exact ⟨x', by rw [List.getElem?_append_left (by omega)]; exact hx', hq.mono fun p hp => .tail _ (.tail _ hp)⟩
    · rw [hc] at hc'
      cases hc'
      exact ⟨x, by rw [← hys, List.getElem?_append_right (Nat.le_refl _), Nat.sub_self]; rfl, dx, k1, k2, k3, k4, k5, k6, k7, k8, .head _, .tail _ (.head _)⟩
theorem get_msgN {w : World} {prog : Program} {A : Around} {E : Value → Shared → Prop} {s : Shared} {e dx L : Addr} {h₀ : Heap} {m : Str → Option Value} {news : List (Addr × Obj)} {fs : Array Value} {sl : Array (Option Value)} {tk tk2 : Tok} {x : Str} {expr : Bool} {Q : Value → Shared → Prop}
    (X₀ : (hd.heap_39 w.params).In h₀) (F : Fr h₀ L s.heap m) (N : News h₀ L s.heap ((e, ⟨.ref 44, some dx, .fields fs, sl⟩) :: (dx, msgDict w.params tk2 (.str x tk)) :: news))
    (h : Q (.str x tk) { s with toks := s.toks + 1 }) : wpAny (model prog w) A (getAttr (.ref e) "message" expr) Q E s := by
  obtain ⟨hh, g, d, t, os⟩ := s
  exact get_msg (oe := ⟨.ref 44, some dx, .fields fs, sl⟩) (dx := dx) (X₀.keeps F.keep) ⟨(N _ (.head _)).1, rfl, rfl, (N _ (.tail _ (.head _))).1⟩ rfl h
set_option maxHeartbeats 8000000 in
theorem told_call {w : World} {dp un : Nat} {gd : Option (List Code)} {cn : Str} {cs : Scope} {a L : Addr} {ccd : Value} {A₀ : Around} {base h₀ : Heap} {m : Str → Option Value} {s : Shared} {Q E : Value → Shared → Prop} {news : List (Addr × Obj)} {mean : ExcName → Option Value} {mg mb : Str → Option Value} {sz lr : Addr} {vs : List Value} {c : Nat} {code prec hi wi : Int} {rows : List Row} {tc tp th tw : Tok}
    (B : Below A₀ base [] h₀) (F : Fr h₀ L s.heap m) (X : (hd.heap_39 w.params).In h₀) (N : News h₀ L s.heap news) (T : Top hd.view_39 (looseW hd.view_39 []) mean mg mb h₀) (hk : cs.kind = .function) (hdp : dp + 40 < recursionLimit) (hun : un + 120 < cLine) (XB : (hd.heap_39 w.params).In base) (TB : Top hd.view_39 (looseW hd.view_39 []) mean mg mb base)
    (hsz : (sz, tupObj [.int hi th, .int wi tw]) ∈ news) (hl : (lr, listOf vs.toArray c) ∈ news) (hrows : RowsAt news vs rows) (hn : rows.length ≤ 5 ∨ (255 < rows.length ∧ rows.length < 1000))
    (hret : ∀ t h' tk', Fr h₀ L h' m → News h₀ L h' news → Q (.str (toldS code prec hi wi rows) t) { s with heap := h', toks := tk' }) :
    wpAny (model PySem.Challenge.rw_xm0811_01.row.prog w) (ktrTop dp un gd cn cs L a ccd [] []) (call (.ref 161) [.int code tc, .int prec tp, .ref sz, .ref lr]) Q E s := by
  revert X
  k_fill
  intro X
  refine wpAny_call ?_
  k_dflt (refine' code_defS0 ?k1 ?k2 ?k3 ?k4 ?k5 ?kA ?k6 ?k7 ?k8 ?k9 ?kB ?_ ?cK ?c2 ?c3 ?c4 ?c5; (case kA => exact rfl); (case k2 => k_asm); (case k1 => k_asm); (case k3 => exact X); (case k4 => k_asm); (case k5 => exact T); (case k6 => k_is); (case k7 => k_is); (case k8 => ktr_room); (case k9 => exact BindsTo.of_eq rfl); (case kB => exact locs rfl); (case cK => exact hk); (case c2 => exact rfl); (case c3 => exact rfl); (case c4 => exact rfl); (case c5 => decide); k_whole; intro g' L' h' FG' F' N' B' X' T' D'; (try dsimp only); (try k_lift B'); (try k_fold))
  (repeat' (first | (k_unfold; (try dsimp only)) | (k_end; wrow_close) | (first | (with_reducible (first | ((with_reducible show wpAny _ _ (exec (Stmt.Assign _ (PySem.Expr.ListComp _ _ _ _) _) _) _ _ _); first | (k_here; k_dflt (refine LCg.Assign_ListComp_U (F₀ := by k_asm) (by rfl) (by with_unfolding_all rfl) (by rfl) (by decide) (by rfl) (by decide) (by rfl) (by rfl) (by rfl) ?_))) | ((with_reducible show wpAny _ _ (noteFrame _ _) _ _ _); first | (k_here; k_dflt (refine' caught_D ?qhR ?qhF ?qhK ?qhU ?qhXB ?qhTB ?qhD ?qhT0 ?_; (case qhR => assumption); (case qhF => assumption); (case qhK => assumption); (case qhU => assumption); (case qhXB => assumption); (case qhTB => assumption); (case qhD => assumption); (case qhT0 => exact KtsTurn.refl)); intro h' g' dx' tkm' tk2' fs' sl' tk' T0' F' N' B' X' P' D')) | ((with_reducible show wpAny _ _ (getAttr (Value.ref _) _ _) _ _ _); first | (k_here; k_dflt (refine' get_msgN ?qhk1 ?qhk2 ?qhk3 ?_; (case qhk1 => k_asm); (case qhk2 => k_asm); (case qhk3 => assumption); k_whole))) | ((with_reducible show wpAny _ _ (call (Value.ref _) _) _ _ _); first | (k_here; (with_reducible show wpAny _ _ (call (Value.ref 135) [Value.ref _]) _ _ _); k_dflt (refine' frame_call ?qhk1 ?qhk2 ?qhk3 ?qhk4 ?qhk5 ?qhk6 ?qhk7 ?qhk8 ?qhhy ?qhhdy ?qhhl ?qhhc ?qhhn ?_ ?_; (case qhk1 => k_asm); (case qhk2 => k_asm); (case qhk3 => k_asm); (case qhk4 => k_asm); (case qhk5 => k_asm); (case qhk6 => first | exact rfl | assumption); (case qhhy => exact List.Mem.head _); (case qhhdy => exact List.Mem.tail _ (List.Mem.head _)); (case qhhl => exact List.Mem.tail _ (List.Mem.tail _ (List.Mem.head _))); (case qhhc => exact CompsAt.mono (by assumption) (fun p hp => List.mem_cons_of_mem _ (List.mem_cons_of_mem _ hp))); (case qhhn => assumption); (case qhk7 => ktr_room); (case qhk8 => ktr_units); k_whole); all_goals (first | (intro msg' hb g' h' tk' e' F' R' U') | (intro hb h' tk' F' N'))) | (k_here; (with_reducible show wpAny _ _ (call (Value.ref 91) [Value.int _ _, Value.int _ _, Value.int _ _, Value.int _ _, Value.ref _]) _ _ _); k_dflt (refine' mkhead_call ?qhk1 ?qhk2 ?qhk3 ?qhk4 ?qhk5 ?qhk6 ?qhk7 ?qhk8 ?_; (case qhk1 => k_asm); (case qhk2 => k_asm); (case qhk3 => k_asm); (case qhk4 => k_asm); (case qhk5 => k_asm); (case qhk6 => first | exact rfl | assumption); (case qhk7 => ktr_room); (case qhk8 => ktr_units); k_whole); intro h' tk' x' d' k1' k2' k3' k4' k5' F' N' l1' l2') | (k_here; (with_reducible show wpAny _ _ (call (Value.ref 70) [Value.int _ _, Value.int _ _, Value.int _ _, Value.int _ _]) _ _ _); k_dflt (refine' mkcomp_call ?qhk1 ?qhk2 ?qhk3 ?qhk4 ?qhk5 ?qhk6 ?qhk7 ?qhk8 ?_; (case qhk1 => k_asm); (case qhk2 => k_asm); (case qhk3 => k_asm); (case qhk4 => k_asm); (case qhk5 => k_asm); (case qhk6 => first | exact rfl | assumption); (case qhk7 => ktr_room); (case qhk8 => ktr_units); k_whole); intro h' tk' x' d' k1' k2' k3' k4' F' N' l1' l2')))) | ((with_reducible show wpAny _ _ (getAttr (Value.ref _) _ _) _ _ _); (k_here; k_dflt (refine' get_msgN ?qhk1 ?qhk2 ?qhk3 ?_; (case qhk1 => k_asm); (case qhk2 => k_asm); (case qhk3 => assumption); k_whole))) | ((with_reducible show wpAny _ _ (noteFrame _ _) _ _ _); (k_here; k_dflt (refine' caught_D ?qhR ?qhF ?qhK ?qhU ?qhXB ?qhTB ?qhD ?qhT0 ?_; (case qhR => assumption); (case qhF => assumption); (case qhK => assumption); (case qhU => assumption); (case qhXB => assumption); (case qhTB => assumption); (case qhD => assumption); (case qhT0 => exact KtsTurn.refl)); intro h' g' dx' tkm' tk2' fs' sl' tk' T0' F' N' B' X' P' D')) | ((with_reducible show wpAny _ _ (call (Value.ref _) _) _ _ _); (k_here; (with_reducible show wpAny _ _ (call (Value.ref 135) [Value.ref _]) _ _ _); k_dflt (refine' frame_call ?qhk1 ?qhk2 ?qhk3 ?qhk4 ?qhk5 ?qhk6 ?qhk7 ?qhk8 ?qhhy ?qhhdy ?qhhl ?qhhc ?qhhn ?_ ?_; (case qhk1 => k_asm); (case qhk2 => k_asm); (case qhk3 => k_asm); (case qhk4 => k_asm); (case qhk5 => k_asm); (case qhk6 => first | exact rfl | assumption); (case qhhy => exact List.Mem.head _); (case qhhdy => exact List.Mem.tail _ (List.Mem.head _)); (case qhhl => exact List.Mem.tail _ (List.Mem.tail _ (List.Mem.head _))); (case qhhc => exact CompsAt.mono (by assumption) (fun p hp => List.mem_cons_of_mem _ (List.mem_cons_of_mem _ hp))); (case qhhn => assumption); (case qhk7 => ktr_room); (case qhk8 => ktr_units); k_whole); all_goals (first | (intro msg' hb g' h' tk' e' F' R' U') | (intro hb h' tk' F' N')))) | ((with_reducible show wpAny _ _ (call (Value.ref _) _) _ _ _); (k_here; (with_reducible show wpAny _ _ (call (Value.ref 91) [Value.int _ _, Value.int _ _, Value.int _ _, Value.int _ _, Value.ref _]) _ _ _); k_dflt (refine' mkhead_call ?qhk1 ?qhk2 ?qhk3 ?qhk4 ?qhk5 ?qhk6 ?qhk7 ?qhk8 ?_; (case qhk1 => k_asm); (case qhk2 => k_asm); (case qhk3 => k_asm); (case qhk4 => k_asm); (case qhk5 => k_asm); (case qhk6 => first | exact rfl | assumption); (case qhk7 => ktr_room); (case qhk8 => ktr_units); k_whole); intro h' tk' x' d' k1' k2' k3' k4' k5' F' N' l1' l2')) | ((with_reducible show wpAny _ _ (call (Value.ref _) _) _ _ _); (k_here; (with_reducible show wpAny _ _ (call (Value.ref 70) [Value.int _ _, Value.int _ _, Value.int _ _, Value.int _ _]) _ _ _); k_dflt (refine' mkcomp_call ?qhk1 ?qhk2 ?qhk3 ?qhk4 ?qhk5 ?qhk6 ?qhk7 ?qhk8 ?_; (case qhk1 => k_asm); (case qhk2 => k_asm); (case qhk3 => k_asm); (case qhk4 => k_asm); (case qhk5 => k_asm); (case qhk6 => first | exact rfl | assumption); (case qhk7 => ktr_room); (case qhk8 => ktr_units); k_whole); intro h' tk' x' d' k1' k2' k3' k4' F' N' l1' l2')) | ((with_reducible show wpAny _ _ (exec (Stmt.Assign _ (PySem.Expr.ListComp _ _ _ _) _) _) _ _ _); (k_here; k_dflt (refine LCg.Assign_ListComp_U (F₀ := by k_asm) (by rfl) (by with_unfolding_all rfl) (by rfl) (by decide) (by rfl) (by decide) (by rfl) (by rfl) (by rfl) ?_)))) | ((first | with_reducible show wpAny _ _ (eval (PySem.Expr.Call _ _ _ _) _) _ _ _ | with_reducible show wpAny _ _ (eval (PySem.Expr.List _ _) _) _ _ _ | with_reducible show wpAny _ _ (eval (PySem.Expr.Tuple _ _ _) _) _ _ _ | with_reducible show wpAny _ _ (eval (PySem.Expr.Subscript _ _ _) _) _ _ _ | with_reducible show wpAny _ _ (eval (PySem.Expr.BinOp _ _ _ _) _) _ _ _); refine qfold ?_; intro q9; walk1) | walk1 | (dsimp only; walk1) | (leave1; walk_say "STEP leave1"; try dsimp only) | fail "no step"))
  refine LCg.CompSrc.ledger (by rfl) F' N' hl (by rw [List.size_toArray, sizeLine_eq, hrows.1]; omega) fun g9 => ?_
  refine comp_rest vs.toArray.size (fun i ys nw => (∃ own, nw = own ++ news) ∧ ys.length = i ∧ ∀ (j : Nat) (c : Row), j < i → rows[j]? = some c → ∃ x : Addr, ys[j]? = some (Value.ref x) ∧ CompAt w.params nw x c) ?step ?fin _ 0 [] _ (Nat.zero_add _) ⟨⟨[], rfl⟩, rfl, fun j c hj => absurd hj (Nat.not_lt_zero _)⟩
  case step =>
    rintro i ys nw hin ⟨⟨own, rfl⟩, hys, hall⟩ v I oI C oC D m₂ h8 tk8 E' hP hC hx F8 N8 ho hne'
    have hlt : i < rows.length := by
      rw [List.size_toArray, hrows.1] at hin
      exact hin
    obtain ⟨v', hv', r, k1, k2, k3, k4, rfl, m1⟩ := hrows.2 i rows[i] (List.getElem?_eq_getElem hlt)
    have hv : v = Value.ref r := by
      rw [List.getElem?_toArray] at hP
      rw [hv'] at hP
      exact (Option.some.inj hP).symm
    subst hv
    have m1' := List.mem_cons_of_mem (I, oI) (List.mem_cons_of_mem (C, oC) (List.mem_cons_of_mem (D, LCg.lst ys) (List.mem_append_right own m1)))
    (repeat' (first | (k_unfold; (try dsimp only)) | (k_end; wrow_close) | (first | (with_reducible (first | ((with_reducible show wpAny _ _ (exec (Stmt.Assign _ (PySem.Expr.ListComp _ _ _ _) _) _) _ _ _); first | (k_here; k_dflt (refine LCg.Assign_ListComp_U (F₀ := by k_asm) (by rfl) (by with_unfolding_all rfl) (by rfl) (by decide) (by rfl) (by decide) (by rfl) (by rfl) (by rfl) ?_))) | ((with_reducible show wpAny _ _ (noteFrame _ _) _ _ _); first | (k_here; k_dflt (refine' caught_D ?qhR ?qhF ?qhK ?qhU ?qhXB ?qhTB ?qhD ?qhT0 ?_; (case qhR => assumption); (case qhF => assumption); (case qhK => assumption); (case qhU => assumption); (case qhXB => assumption); (case qhTB => assumption); (case qhD => assumption); (case qhT0 => exact KtsTurn.refl)); intro h' g' dx' tkm' tk2' fs' sl' tk' T0' F' N' B' X' P' D')) | ((with_reducible show wpAny _ _ (getAttr (Value.ref _) _ _) _ _ _); first | (k_here; k_dflt (refine' get_msgN ?qhk1 ?qhk2 ?qhk3 ?_; (case qhk1 => k_asm); (case qhk2 => k_asm); (case qhk3 => assumption); k_whole))) | ((with_reducible show wpAny _ _ (call (Value.ref _) _) _ _ _); first | (k_here; (with_reducible show wpAny _ _ (call (Value.ref 135) [Value.ref _]) _ _ _); k_dflt (refine' frame_call ?qhk1 ?qhk2 ?qhk3 ?qhk4 ?qhk5 ?qhk6 ?qhk7 ?qhk8 ?qhhy ?qhhdy ?qhhl ?qhhc ?qhhn ?_ ?_; (case qhk1 => k_asm); (case qhk2 => k_asm); (case qhk3 => k_asm); (case qhk4 => k_asm); (case qhk5 => k_asm); (case qhk6 => first | exact rfl | assumption); (case qhhy => exact List.Mem.head _); (case qhhdy => exact List.Mem.tail _ (List.Mem.head _)); (case qhhl => exact List.Mem.tail _ (List.Mem.tail _ (List.Mem.head _))); (case qhhc => exact CompsAt.mono (by assumption) (fun p hp => List.mem_cons_of_mem _ (List.mem_cons_of_mem _ hp))); (case qhhn => assumption); (case qhk7 => ktr_room); (case qhk8 => ktr_units); k_whole); all_goals (first | (intro msg' hb g' h' tk' e' F' R' U') | (intro hb h' tk' F' N'))) | (k_here; (with_reducible show wpAny _ _ (call (Value.ref 91) [Value.int _ _, Value.int _ _, Value.int _ _, Value.int _ _, Value.ref _]) _ _ _); k_dflt (refine' mkhead_call ?qhk1 ?qhk2 ?qhk3 ?qhk4 ?qhk5 ?qhk6 ?qhk7 ?qhk8 ?_; (case qhk1 => k_asm); (case qhk2 => k_asm); (case qhk3 => k_asm); (case qhk4 => k_asm); (case qhk5 => k_asm); (case qhk6 => first | exact rfl | assumption); (case qhk7 => ktr_room); (case qhk8 => ktr_units); k_whole); intro h' tk' x' d' k1' k2' k3' k4' k5' F' N' l1' l2') | (k_here; (with_reducible show wpAny _ _ (call (Value.ref 70) [Value.int _ _, Value.int _ _, Value.int _ _, Value.int _ _]) _ _ _); k_dflt (refine' mkcomp_call ?qhk1 ?qhk2 ?qhk3 ?qhk4 ?qhk5 ?qhk6 ?qhk7 ?qhk8 ?_; (case qhk1 => k_asm); (case qhk2 => k_asm); (case qhk3 => k_asm); (case qhk4 => k_asm); (case qhk5 => k_asm); (case qhk6 => first | exact rfl | assumption); (case qhk7 => ktr_room); (case qhk8 => ktr_units); k_whole); intro h' tk' x' d' k1' k2' k3' k4' F' N' l1' l2')))) | ((with_reducible show wpAny _ _ (getAttr (Value.ref _) _ _) _ _ _); (k_here; k_dflt (refine' get_msgN ?qhk1 ?qhk2 ?qhk3 ?_; (case qhk1 => k_asm); (case qhk2 => k_asm); (case qhk3 => assumption); k_whole))) | ((with_reducible show wpAny _ _ (noteFrame _ _) _ _ _); (k_here; k_dflt (refine' caught_D ?qhR ?qhF ?qhK ?qhU ?qhXB ?qhTB ?qhD ?qhT0 ?_; (case qhR => assumption); (case qhF => assumption); (case qhK => assumption); (case qhU => assumption); (case qhXB => assumption); (case qhTB => assumption); (case qhD => assumption); (case qhT0 => exact KtsTurn.refl)); intro h' g' dx' tkm' tk2' fs' sl' tk' T0' F' N' B' X' P' D')) | ((with_reducible show wpAny _ _ (call (Value.ref _) _) _ _ _); (k_here; (with_reducible show wpAny _ _ (call (Value.ref 135) [Value.ref _]) _ _ _); k_dflt (refine' frame_call ?qhk1 ?qhk2 ?qhk3 ?qhk4 ?qhk5 ?qhk6 ?qhk7 ?qhk8 ?qhhy ?qhhdy ?qhhl ?qhhc ?qhhn ?_ ?_; (case qhk1 => k_asm); (case qhk2 => k_asm); (case qhk3 => k_asm); (case qhk4 => k_asm); (case qhk5 => k_asm); (case qhk6 => first | exact rfl | assumption); (case qhhy => exact List.Mem.head _); (case qhhdy => exact List.Mem.tail _ (List.Mem.head _)); (case qhhl => exact List.Mem.tail _ (List.Mem.tail _ (List.Mem.head _))); (case qhhc => exact CompsAt.mono (by assumption) (fun p hp => List.mem_cons_of_mem _ (List.mem_cons_of_mem _ hp))); (case qhhn => assumption); (case qhk7 => ktr_room); (case qhk8 => ktr_units); k_whole); all_goals (first | (intro msg' hb g' h' tk' e' F' R' U') | (intro hb h' tk' F' N')))) | ((with_reducible show wpAny _ _ (call (Value.ref _) _) _ _ _); (k_here; (with_reducible show wpAny _ _ (call (Value.ref 91) [Value.int _ _, Value.int _ _, Value.int _ _, Value.int _ _, Value.ref _]) _ _ _); k_dflt (refine' mkhead_call ?qhk1 ?qhk2 ?qhk3 ?qhk4 ?qhk5 ?qhk6 ?qhk7 ?qhk8 ?_; (case qhk1 => k_asm); (case qhk2 => k_asm); (case qhk3 => k_asm); (case qhk4 => k_asm); (case qhk5 => k_asm); (case qhk6 => first | exact rfl | assumption); (case qhk7 => ktr_room); (case qhk8 => ktr_units); k_whole); intro h' tk' x' d' k1' k2' k3' k4' k5' F' N' l1' l2')) | ((with_reducible show wpAny _ _ (call (Value.ref _) _) _ _ _); (k_here; (with_reducible show wpAny _ _ (call (Value.ref 70) [Value.int _ _, Value.int _ _, Value.int _ _, Value.int _ _]) _ _ _); k_dflt (refine' mkcomp_call ?qhk1 ?qhk2 ?qhk3 ?qhk4 ?qhk5 ?qhk6 ?qhk7 ?qhk8 ?_; (case qhk1 => k_asm); (case qhk2 => k_asm); (case qhk3 => k_asm); (case qhk4 => k_asm); (case qhk5 => k_asm); (case qhk6 => first | exact rfl | assumption); (case qhk7 => ktr_room); (case qhk8 => ktr_units); k_whole); intro h' tk' x' d' k1' k2' k3' k4' F' N' l1' l2')) | ((with_reducible show wpAny _ _ (exec (Stmt.Assign _ (PySem.Expr.ListComp _ _ _ _) _) _) _ _ _); (k_here; k_dflt (refine LCg.Assign_ListComp_U (F₀ := by k_asm) (by rfl) (by with_unfolding_all rfl) (by rfl) (by decide) (by rfl) (by decide) (by rfl) (by rfl) (by rfl) ?_)))) | ((first | with_reducible show wpAny _ _ (eval (PySem.Expr.Call _ _ _ _) _) _ _ _ | with_reducible show wpAny _ _ (eval (PySem.Expr.List _ _) _) _ _ _ | with_reducible show wpAny _ _ (eval (PySem.Expr.Tuple _ _ _) _) _ _ _ | with_reducible show wpAny _ _ (eval (PySem.Expr.Subscript _ _ _) _) _ _ _ | with_reducible show wpAny _ _ (eval (PySem.Expr.BinOp _ _ _ _) _) _ _ _); refine qfold ?_; intro q9; walk1) | walk1 | (dsimp only; walk1) | (leave1; walk_say "STEP leave1"; try dsimp only) | fail "no step"))
    exact comp_made (by assumption) (by assumption) (by assumption) (by assumption) ho hl hys hall (List.getElem?_eq_getElem hlt)
  case fin =>
    rintro ys nw ⟨⟨own, rfl⟩, hys, hall⟩
    have hcs : CompsAt w.params (own ++ news) ys rows := ⟨by rw [hys, List.size_toArray, hrows.1], fun j c hc => hall j c (by
      have := (List.getElem?_eq_some_iff.mp hc).1
      rw [List.size_toArray, hrows.1]
      exact this) hc⟩
    intro D9 h9 tk9 F9 N9 o9
    have hsz' : (sz, tupObj [.int hi th, .int wi tw]) ∈ (D9, LCg.lst ys) :: (own ++ news) := List.mem_cons_of_mem _ (List.mem_append_right own hsz)
    have hcs' : CompsAt w.params ((D9, LCg.lst ys) :: (own ++ news)) ys rows := CompsAt.mono hcs fun p hp => List.mem_cons_of_mem _ hp
    (repeat' (first | (k_unfold; (try dsimp only)) | (k_end; wrow_close) | (first | (with_reducible (first | ((with_reducible show wpAny _ _ (exec (Stmt.Assign _ (PySem.Expr.ListComp _ _ _ _) _) _) _ _ _); first | (k_here; k_dflt (refine LCg.Assign_ListComp_U (F₀ := by k_asm) (by rfl) (by with_unfolding_all rfl) (by rfl) (by decide) (by rfl) (by decide) (by rfl) (by rfl) (by rfl) ?_))) | ((with_reducible show wpAny _ _ (noteFrame _ _) _ _ _); first | (k_here; k_dflt (refine' caught_D ?qhR ?qhF ?qhK ?qhU ?qhXB ?qhTB ?qhD ?qhT0 ?_; (case qhR => assumption); (case qhF => assumption); (case qhK => assumption); (case qhU => assumption); (case qhXB => assumption); (case qhTB => assumption); (case qhD => assumption); (case qhT0 => exact KtsTurn.refl)); intro h' g' dx' tkm' tk2' fs' sl' tk' T0' F' N' B' X' P' D')) | ((with_reducible show wpAny _ _ (getAttr (Value.ref _) _ _) _ _ _); first | (k_here; k_dflt (refine' get_msgN ?qhk1 ?qhk2 ?qhk3 ?_; (case qhk1 => k_asm); (case qhk2 => k_asm); (case qhk3 => assumption); k_whole))) | ((with_reducible show wpAny _ _ (call (Value.ref _) _) _ _ _); first | (k_here; (with_reducible show wpAny _ _ (call (Value.ref 135) [Value.ref _]) _ _ _); k_dflt (refine' frame_call ?qhk1 ?qhk2 ?qhk3 ?qhk4 ?qhk5 ?qhk6 ?qhk7 ?qhk8 ?qhhy ?qhhdy ?qhhl ?qhhc ?qhhn ?_ ?_; (case qhk1 => k_asm); (case qhk2 => k_asm); (case qhk3 => k_asm); (case qhk4 => k_asm); (case qhk5 => k_asm); (case qhk6 => first | exact rfl | assumption); (case qhhy => exact List.Mem.head _); (case qhhdy => exact List.Mem.tail _ (List.Mem.head _)); (case qhhl => exact List.Mem.tail _ (List.Mem.tail _ (List.Mem.head _))); (case qhhc => exact CompsAt.mono (by assumption) (fun p hp => List.mem_cons_of_mem _ (List.mem_cons_of_mem _ hp))); (case qhhn => assumption); (case qhk7 => ktr_room); (case qhk8 => ktr_units); k_whole); all_goals (first | (intro msg' hb g' h' tk' e' F' R' U') | (intro hb h' tk' F' N'))) | (k_here; (with_reducible show wpAny _ _ (call (Value.ref 91) [Value.int _ _, Value.int _ _, Value.int _ _, Value.int _ _, Value.ref _]) _ _ _); k_dflt (refine' mkhead_call ?qhk1 ?qhk2 ?qhk3 ?qhk4 ?qhk5 ?qhk6 ?qhk7 ?qhk8 ?_; (case qhk1 => k_asm); (case qhk2 => k_asm); (case qhk3 => k_asm); (case qhk4 => k_asm); (case qhk5 => k_asm); (case qhk6 => first | exact rfl | assumption); (case qhk7 => ktr_room); (case qhk8 => ktr_units); k_whole); intro h' tk' x' d' k1' k2' k3' k4' k5' F' N' l1' l2') | (k_here; (with_reducible show wpAny _ _ (call (Value.ref 70) [Value.int _ _, Value.int _ _, Value.int _ _, Value.int _ _]) _ _ _); k_dflt (refine' mkcomp_call ?qhk1 ?qhk2 ?qhk3 ?qhk4 ?qhk5 ?qhk6 ?qhk7 ?qhk8 ?_; (case qhk1 => k_asm); (case qhk2 => k_asm); (case qhk3 => k_asm); (case qhk4 => k_asm); (case qhk5 => k_asm); (case qhk6 => first | exact rfl | assumption); (case qhk7 => ktr_room); (case qhk8 => ktr_units); k_whole); intro h' tk' x' d' k1' k2' k3' k4' F' N' l1' l2')))) | ((with_reducible show wpAny _ _ (getAttr (Value.ref _) _ _) _ _ _); (k_here; k_dflt (refine' get_msgN ?qhk1 ?qhk2 ?qhk3 ?_; (case qhk1 => k_asm); (case qhk2 => k_asm); (case qhk3 => assumption); k_whole))) | ((with_reducible show wpAny _ _ (noteFrame _ _) _ _ _); (k_here; k_dflt (refine' caught_D ?qhR ?qhF ?qhK ?qhU ?qhXB ?qhTB ?qhD ?qhT0 ?_; (case qhR => assumption); (case qhF => assumption); (case qhK => assumption); (case qhU => assumption); (case qhXB => assumption); (case qhTB => assumption); (case qhD => assumption); (case qhT0 => exact KtsTurn.refl)); intro h' g' dx' tkm' tk2' fs' sl' tk' T0' F' N' B' X' P' D')) | ((with_reducible show wpAny _ _ (call (Value.ref _) _) _ _ _); (k_here; (with_reducible show wpAny _ _ (call (Value.ref 135) [Value.ref _]) _ _ _); k_dflt (refine' frame_call ?qhk1 ?qhk2 ?qhk3 ?qhk4 ?qhk5 ?qhk6 ?qhk7 ?qhk8 ?qhhy ?qhhdy ?qhhl ?qhhc ?qhhn ?_ ?_; (case qhk1 => k_asm); (case qhk2 => k_asm); (case qhk3 => k_asm); (case qhk4 => k_asm); (case qhk5 => k_asm); (case qhk6 => first | exact rfl | assumption); (case qhhy => exact List.Mem.head _); (case qhhdy => exact List.Mem.tail _ (List.Mem.head _)); (case qhhl => exact List.Mem.tail _ (List.Mem.tail _ (List.Mem.head _))); (case qhhc => exact CompsAt.mono (by assumption) (fun p hp => List.mem_cons_of_mem _ (List.mem_cons_of_mem _ hp))); (case qhhn => assumption); (case qhk7 => ktr_room); (case qhk8 => ktr_units); k_whole); all_goals (first | (intro msg' hb g' h' tk' e' F' R' U') | (intro hb h' tk' F' N')))) | ((with_reducible show wpAny _ _ (call (Value.ref _) _) _ _ _); (k_here; (with_reducible show wpAny _ _ (call (Value.ref 91) [Value.int _ _, Value.int _ _, Value.int _ _, Value.int _ _, Value.ref _]) _ _ _); k_dflt (refine' mkhead_call ?qhk1 ?qhk2 ?qhk3 ?qhk4 ?qhk5 ?qhk6 ?qhk7 ?qhk8 ?_; (case qhk1 => k_asm); (case qhk2 => k_asm); (case qhk3 => k_asm); (case qhk4 => k_asm); (case qhk5 => k_asm); (case qhk6 => first | exact rfl | assumption); (case qhk7 => ktr_room); (case qhk8 => ktr_units); k_whole); intro h' tk' x' d' k1' k2' k3' k4' k5' F' N' l1' l2')) | ((with_reducible show wpAny _ _ (call (Value.ref _) _) _ _ _); (k_here; (with_reducible show wpAny _ _ (call (Value.ref 70) [Value.int _ _, Value.int _ _, Value.int _ _, Value.int _ _]) _ _ _); k_dflt (refine' mkcomp_call ?qhk1 ?qhk2 ?qhk3 ?qhk4 ?qhk5 ?qhk6 ?qhk7 ?qhk8 ?_; (case qhk1 => k_asm); (case qhk2 => k_asm); (case qhk3 => k_asm); (case qhk4 => k_asm); (case qhk5 => k_asm); (case qhk6 => first | exact rfl | assumption); (case qhk7 => ktr_room); (case qhk8 => ktr_units); k_whole); intro h' tk' x' d' k1' k2' k3' k4' F' N' l1' l2')) | ((with_reducible show wpAny _ _ (exec (Stmt.Assign _ (PySem.Expr.ListComp _ _ _ _) _) _) _ _ _); (k_here; k_dflt (refine LCg.Assign_ListComp_U (F₀ := by k_asm) (by rfl) (by with_unfolding_all rfl) (by rfl) (by decide) (by rfl) (by decide) (by rfl) (by rfl) (by rfl) ?_)))) | ((first | with_reducible show wpAny _ _ (eval (PySem.Expr.Call _ _ _ _) _) _ _ _ | with_reducible show wpAny _ _ (eval (PySem.Expr.List _ _) _) _ _ _ | with_reducible show wpAny _ _ (eval (PySem.Expr.Tuple _ _ _) _) _ _ _ | with_reducible show wpAny _ _ (eval (PySem.Expr.Subscript _ _ _) _) _ _ _ | with_reducible show wpAny _ _ (eval (PySem.Expr.BinOp _ _ _ _) _) _ _ _); refine qfold ?_; intro q9; walk1) | walk1 | (dsimp only; walk1) | (leave1; walk_say "STEP leave1"; try dsimp only) | fail "no step"))
    · refine cb_retS (Q := Q) hret (told_0 (by assumption)) (by assumption) (cb_drop (by assumption) (by intro p hp; (repeat apply List.mem_cons_of_mem); exact List.mem_append_right _ hp))
    · refine cb_retS (Q := Q) hret (told_1 (by assumption)) (by assumption) (cb_drop (by assumption) (by intro p hp; (repeat apply List.mem_cons_of_mem); exact List.mem_append_right _ hp))
end Mine
end
section
open PySem PySem.W PyProof.Rows PySem.Calls
namespace Mine
set_option maxRecDepth 100000
theorem getd0 (x y : Int) : [x, y].getD (Int.toNat 0) 0 = x := rfl
theorem getd1 (x y : Int) : [x, y].getD (Int.toNat 1) 0 = y := rfl
theorem fm_lo {a b : Int} (h : 0 < b) : 0 ≤ a.fmod b := Int.fmod_nonneg_of_pos a h
theorem fm_hi {a b : Int} (h : 0 < b) : a.fmod b < b := Int.fmod_lt_of_pos a h
theorem fd_lo {a b : Int} (h : 0 ≤ a) (h2 : 0 < b) : 0 ≤ a.fdiv b := Int.fdiv_nonneg h (Int.le_of_lt h2)
abbrev srcObj (x y : Int) (tx ty : Tok) (k : Nat) : Obj := listOf #[.int x tx, .int y ty] k
/-- the ledger with the source turned -/
def Turned (h₀ : Heap) (L : Addr) (h' : Heap) (src : Addr) (o o' : Obj) (news : List (Addr × Obj)) : Prop := ∀ news', Upd src o o' news news' → News h₀ L h' news'
theorem turned_of {h₀ H g h' : Heap} {L L' src : Addr} {m' : Str → Option Value} {news : List (Addr × Obj)} {o o' : Obj} (N : News h₀ L H news) (hG : GSub H g [src]) (F' : Fr g L' h' m') (Ns : News h₀ L h' [(src, o')]) : Turned h₀ L h' src o o' news := fun news' U p hp => by
  obtain ⟨pre, post, rfl, rfl, h1, h2⟩ := U.split
  have other : ∀ q ∈ pre ++ (src, o) :: post, q.1 ≠ src → h'.get? q.1 = some q.2 ∧ q.1 ≠ L ∧ h₀.get? q.1 = none := fun q hq hne =>
    ⟨F'.keep _ _ (hG _ _ (N q hq).1 (by simpa using hne)), (N q hq).2⟩
  rcases List.mem_append.mp hp with q | q
  · exact other p (List.mem_append_left _ q) (h1 p q)
  · rcases List.mem_cons.mp q with rfl | q
    · exact Ns _ (.head _)
    · exact other p (List.mem_append_right _ (.tail _ q)) (h2 p q)
set_option maxHeartbeats 8000000 in
theorem take_call {w : World} {dp un : Nat} {gd : Option (List Code)} {cn : Str} {cs : Scope} {a L : Addr} {ccd : Value} {outer : List Env} {A₀ : Around} {base h₀ : Heap} {m : Str → Option Value} {s : Shared} {Q E : Value → Shared → Prop} {news : List (Addr × Obj)} {mean : ExcName → Option Value} {mg mb : Str → Option Value} {src : Addr} {x y top : Int} {tx ty tt : Tok} {k : Nat}
    (B : Below A₀ base outer h₀) (F : Fr h₀ L s.heap m) (X : (hd.heap_39 w.params).In h₀) (N0 : News h₀ L s.heap news) (T : Top hd.view_39 (looseW hd.view_39 []) mean mg mb h₀) (hk : cs.kind = .function) (hdp : dp + 8 < recursionLimit) (hun : un + 24 < cLine)
    (hs : (src, srcObj x y tx ty k) ∈ news) (hx : 0 ≤ x) (hy : 0 ≤ y) (hy2 : y < 2147483647) (ht : 0 < top) (ht2 : top ≤ 1000)
    (hret : ∀ (d : Int) t h' tk' x' y' tx' ty', Fr h₀ L h' m → Turned h₀ L h' src (srcObj x y tx ty k) (srcObj x' y' tx' ty' k) news → 0 ≤ d → d < top → 0 ≤ x' → 0 ≤ y' → y' < 2147483647 → Q (.int d t) { s with heap := h', toks := tk' }) :
    wpAny (model PySem.Challenge.rw_xm0811_01.row.prog w) (ktrTop dp un gd cn cs L a ccd [] outer) (call (.ref 149) [.ref src, .int top tt]) Q E s := by
  revert X
  k_fill
  intro X
  have N : News h₀ L s.heap [(src, srcObj x y tx ty k)] := news_one N0 hs
  refine wpAny_call ?_
  k_dflt (refine' code_defG ?k1 ?k2 ?k3 ?k4 ?k5 ?kA ?kF ?kK ?k6 ?k7 ?k8 ?k9 ?kB ?_ ?c2 ?c3 ?c4 ?c5; (case kA => exact rfl); (case kF => exact rfl); (case kK => assumption); (case k1 => exact B); (case k2 => exact F); (case k3 => exact X); (case k4 => exact N); (case k5 => exact T); (case k6 => k_is); (case k7 => k_is); (case k8 => ktr_room); (case k9 => exact BindsTo.of_eq rfl); (case c5 => decide); (case kB => exact locs rfl); (case c2 => exact rfl); (case c3 => exact rfl); (case c4 => exact rfl); k_whole; intro g' L' h' FG' F' N' B' X' T' hG; (try dsimp only); (try k_lift B'); (try k_fold))
  have hret' : ∀ (d : Int) t h' tk' L'' m' x' y' tx' ty', Fr h₀ L h' m → Fr g' L'' h' m' → News h₀ L h' [(src, srcObj x' y' tx' ty' k)] → 0 ≤ d → d < top → 0 ≤ x' → 0 ≤ y' → y' < 2147483647 → Q (.int d t) { s with heap := h', toks := tk' } :=
    fun d t h' tk' L'' m' x' y' tx' ty' F1 F2 N1 => hret d t h' tk' x' y' tx' ty' F1 (turned_of N0 hG F2 N1)
  clear hret N0 hs
  (repeat' (first | (k_unfold; (try dsimp only)) | (k_end; wrow_close) | (first | (with_reducible (first | ((with_reducible show wpAny _ _ (binaryOp Operator.Mult (Value.int _ _) (Value.int _ _)) _ _ _); first | (k_here; (with_reducible show wpAny _ _ (binaryOp _ (Value.int (List.getD [_, Int.fmod _ _] _ _) _) (Value.int _ _)) _ _ _); (simp only [getd1]); with_reducible refine mul_int ?_)))) | ((with_reducible show wpAny _ _ (binaryOp Operator.Mult (Value.int _ _) (Value.int _ _)) _ _ _); (k_here; (with_reducible show wpAny _ _ (binaryOp _ (Value.int (List.getD [_, Int.fmod _ _] _ _) _) (Value.int _ _)) _ _ _); (simp only [getd1]); with_reducible refine mul_int ?_))) | ((first | with_reducible show wpAny _ _ (eval (PySem.Expr.Call _ _ _ _) _) _ _ _ | with_reducible show wpAny _ _ (eval (PySem.Expr.List _ _) _) _ _ _ | with_reducible show wpAny _ _ (eval (PySem.Expr.Tuple _ _ _) _) _ _ _ | with_reducible show wpAny _ _ (eval (PySem.Expr.Subscript _ _ _) _) _ _ _ | with_reducible show wpAny _ _ (eval (PySem.Expr.BinOp _ _ _ _) _) _ _ _); refine qfold ?_; intro q9; walk1) | walk1 | (dsimp only; walk1) | (leave1; walk_say "STEP leave1"; try dsimp only) | fail "no step"))
  · refine' hret' _ _ _ _ _ _ _ _ _ _ ?f ?g ?n ?_ ?_ ?_ hy hy2
    (case n => assumption)
    (case g => assumption)
    (case f => assumption)
    · exact fm_lo ht
    · exact fm_hi ht
    · exact fd_lo hx ht
  · refine' hret' _ _ _ _ _ _ _ _ _ _ ?f ?g ?n ?_ ?_ hx ?_ ?_
    (case n => assumption)
    (case g => assumption)
    (case f => assumption)
    · exact fm_lo ht
    · exact fm_hi ht
    · exact fm_lo (by omega)
    · exact fm_hi (by omega)
end Mine
end
section
open PySem PySem.W PyProof.Rows PySem.Calls
namespace Mine
set_option maxRecDepth 100000
def intOf : Value → Int
  | .int n _ => n
  | _ => 0
def isI : Value → Bool
  | .int _ _ => true
  | _ => false
theorem isI_of {v : Value} (h : isI v = true) : ∃ t, v = Value.int (intOf v) t := by
  cases v <;> simp [isI] at h
  exact ⟨_, rfl⟩
theorem turned_of2 {h₀ H g h' : Heap} {L L' src lt : Addr} {m' : Str → Option Value} {news : List (Addr × Obj)} {o o' lo : Obj} (N : News h₀ L H news) (hG : GSub H g [lt, src]) (F' : Fr g L' h' m') (Ns : News h₀ L h' [(lt, lo), (src, o')]) (hl : (lt, lo) ∈ news) : Turned h₀ L h' src o o' news := fun news' U p hp => by
  obtain ⟨pre, post, rfl, rfl, h1, h2⟩ := U.split
  have other : ∀ q ∈ pre ++ (src, o) :: post, q.1 ≠ src → h'.get? q.1 = some q.2 ∧ q.1 ≠ L ∧ h₀.get? q.1 = none := fun q hq hne => by
    by_cases e : q.1 = lt
    · have a := (N q hq).1
      rw [e, (N _ hl).1] at a
      refine ⟨?_, (N q hq).2⟩
      rw [e, ← Option.some.inj a]
      exact (Ns _ (.head _)).1
    · exact ⟨F'.keep _ _ (hG _ _ (N q hq).1 (by simp [e, hne])), (N q hq).2⟩
  rcases List.mem_append.mp hp with q | q
  · exact other p (List.mem_append_left _ q) (h1 p q)
  · rcases List.mem_cons.mp q with rfl | q
    · exact Ns _ (.tail _ (.head _))
    · exact other p (List.mem_append_right _ (.tail _ q)) (h2 p q)
theorem item_one {prog : Program} {w : World} {A : Around} {E : Value → Shared → Prop} {s : Shared} {h₀ : Heap} {L l : Addr} {news : List (Addr × Obj)} {value slice : PySem.Expr} {vs : List Value} {c : Nat} {d : Int} {u : Tok} {Q : Value → Shared → Prop}
    (N : News h₀ L s.heap news) (hl : (l, listOf vs.toArray c) ∈ news) (h0 : 0 ≤ d) (h1 : d < (vs.length : Int)) (h2 : (vs.length : Int) ≤ 1000) (h : ∀ v, v ∈ vs → Q v s)
    (hs : subscripted slice false (.ref l) (.int d u) = operate [.ref l, .int d u] (getItem (.ref l) (.int d u)) := by with_unfolding_all rfl) :
    wpAny (model prog w) A (subscriptTail value slice (.ref l) (.int d u)) Q E s := by
  have hL : s.heap.IsList l vs.toArray := ⟨_, (N _ hl).1, rfl, _, rfl⟩
  have hlt : d.toNat < vs.length := by omega
  exact tail_any hL.typeIs slot_list_getitem.lookup (wpAny_getItem_list hL h0 (by omega) (by rw [List.getElem?_toArray, List.getElem?_eq_getElem hlt]) (h _ (List.getElem_mem hlt))) hs
set_option maxHeartbeats 8000000 in
theorem one_call {w : World} {dp un : Nat} {gd : Option (List Code)} {cn : Str} {cs : Scope} {a L : Addr} {ccd : Value} {outer : List Env} {A₀ : Around} {base h₀ : Heap} {m : Str → Option Value} {s : Shared} {Q E : Value → Shared → Prop} {news : List (Addr × Obj)} {mean : ExcName → Option Value} {mg mb : Str → Option Value} {src lt : Addr} {x y : Int} {tx ty : Tok} {k c : Nat} {vs : List Value}
    (B : Below A₀ base outer h₀) (F : Fr h₀ L s.heap m) (X : (hd.heap_39 w.params).In h₀) (N0 : News h₀ L s.heap news) (T : Top hd.view_39 (looseW hd.view_39 []) mean mg mb h₀) (hk : cs.kind = .function) (hdp : dp + 12 < recursionLimit) (hun : un + 40 < cLine)
    (hs : (src, srcObj x y tx ty k) ∈ news) (hl : (lt, listOf vs.toArray c) ∈ news) (hne : @Ne Nat lt src) (hx : 0 ≤ x) (hy : 0 ≤ y) (hy2 : y < 2147483647) (hv1 : 1 ≤ vs.length) (hv2 : vs.length ≤ 1000)
    (hret : ∀ v h' tk' x' y' tx' ty', v ∈ vs → Fr h₀ L h' m → Turned h₀ L h' src (srcObj x y tx ty k) (srcObj x' y' tx' ty' k) news → 0 ≤ x' → 0 ≤ y' → y' < 2147483647 → Q v { s with heap := h', toks := tk' }) :
    wpAny (model PySem.Challenge.rw_xm0811_01.row.prog w) (ktrTop dp un gd cn cs L a ccd [] outer) (call (.ref 156) [.ref src, .ref lt]) Q E s := by
  revert X
  k_fill
  intro X
  have N : News h₀ L s.heap [(lt, listOf vs.toArray c), (src, srcObj x y tx ty k)] := fun p hp => by
    rcases List.mem_cons.mp hp with rfl | hp
    · exact N0 _ hl
    · rw [List.mem_singleton.mp hp]; exact N0 _ hs
  refine wpAny_call ?_
  k_dflt (refine' code_defG ?k1 ?k2 ?k3 ?k4 ?k5 ?kA ?kF ?kK ?k6 ?k7 ?k8 ?k9 ?kB ?_ ?c2 ?c3 ?c4 ?c5; (case kA => exact rfl); (case kF => exact rfl); (case kK => assumption); (case k1 => exact B); (case k2 => exact F); (case k3 => exact X); (case k4 => exact N); (case k5 => exact T); (case k6 => k_is); (case k7 => k_is); (case k8 => ktr_room); (case k9 => exact BindsTo.of_eq rfl); (case c5 => decide); (case kB => exact locs rfl); (case c2 => exact rfl); (case c3 => exact rfl); (case c4 => exact rfl); k_whole; intro g' L' h' FG' F' N' B' X' T' hG; (try dsimp only); (try k_lift B'); (try k_fold))
  have hret' : ∀ v h' tk' L'' m' x' y' tx' ty', v ∈ vs → Fr h₀ L h' m → Fr g' L'' h' m' → News h₀ L h' [(lt, listOf vs.toArray c), (src, srcObj x' y' tx' ty' k)] → 0 ≤ x' → 0 ≤ y' → y' < 2147483647 → Q v { s with heap := h', toks := tk' } :=
    fun v h' tk' L'' m' x' y' tx' ty' hv F1 F2 N1 => hret v h' tk' x' y' tx' ty' hv F1 (turned_of2 N0 hG F2 N1 hl)
  clear hret N0 hs hl
  (repeat' (first | (k_unfold; (try dsimp only)) | (k_end; wrow_close) | (first | (with_reducible (first | ((with_reducible show wpAny _ _ (subscriptTail _ _ _ _) _ _ _); first | (k_here; (with_reducible show wpAny _ _ (subscriptTail _ _ (Value.ref _) (Value.int _ _)) _ _ _); k_dflt (refine' item_one ?qhk1 ?qhk2 ?qhk3 ?qhk4 ?qhk5 ?_ ?qhk6; (case qhk1 => k_asm); (case qhk2 => exact List.Mem.head _); (case qhk3 => omega); (case qhk4 => omega); (case qhk5 => omega); (case qhk6 => with_unfolding_all rfl); k_whole); intro v' hv')) | ((with_reducible show wpAny _ _ (call _ _) _ _ _); first | ((with_reducible show wpAny _ _ (call (Value.builtin "len") _) _ _ _); first | (k_here; k_dflt (refine' kst_len ?qhk1 ?qhk2 rfl ?qhk3 ?_; (case qhk1 => k_asm); (case qhk2 => exact List.Mem.head _); (case qhk3 => omega); k_whole))) | ((with_reducible show wpAny _ _ (call (Value.ref _) _) _ _ _); first | (k_here; (with_reducible show wpAny _ _ (call (Value.ref 149) [Value.ref _, Value.int _ _]) _ _ _); k_dflt (refine' take_call ?qhk1 ?qhk2 ?qhk3 ?qhk4 ?qhk5 ?qhk6 ?qhk7 ?qhk8 ?qhhs ?qhhx ?qhhy ?qhhy2 ?qhht ?qhht2 ?_; (case qhk1 => k_asm); (case qhk2 => k_asm); (case qhk3 => k_asm); (case qhk4 => k_asm); (case qhk5 => k_asm); (case qhk6 => first | exact rfl | assumption); (case qhhs => k_mem); (case qhhx => assumption); (case qhhy => assumption); (case qhhy2 => assumption); (case qhht => omega); (case qhht2 => omega); (case qhk7 => ktr_room); (case qhk8 => ktr_units); k_whole); k_dflt (intro d' t' h' tk' x' y' tx' ty' F' hT' hd' hd2' hx' hy' hy2'; (have N' := hT' _ (by k_upd)); clear hT')))))) | ((with_reducible show wpAny _ _ (subscriptTail _ _ _ _) _ _ _); (k_here; (with_reducible show wpAny _ _ (subscriptTail _ _ (Value.ref _) (Value.int _ _)) _ _ _); k_dflt (refine' item_one ?qhk1 ?qhk2 ?qhk3 ?qhk4 ?qhk5 ?_ ?qhk6; (case qhk1 => k_asm); (case qhk2 => exact List.Mem.head _); (case qhk3 => omega); (case qhk4 => omega); (case qhk5 => omega); (case qhk6 => with_unfolding_all rfl); k_whole); intro v' hv')) | ((with_reducible show wpAny _ _ (call (Value.ref _) _) _ _ _); (k_here; (with_reducible show wpAny _ _ (call (Value.ref 149) [Value.ref _, Value.int _ _]) _ _ _); k_dflt (refine' take_call ?qhk1 ?qhk2 ?qhk3 ?qhk4 ?qhk5 ?qhk6 ?qhk7 ?qhk8 ?qhhs ?qhhx ?qhhy ?qhhy2 ?qhht ?qhht2 ?_; (case qhk1 => k_asm); (case qhk2 => k_asm); (case qhk3 => k_asm); (case qhk4 => k_asm); (case qhk5 => k_asm); (case qhk6 => first | exact rfl | assumption); (case qhhs => k_mem); (case qhhx => assumption); (case qhhy => assumption); (case qhhy2 => assumption); (case qhht => omega); (case qhht2 => omega); (case qhk7 => ktr_room); (case qhk8 => ktr_units); k_whole); k_dflt (intro d' t' h' tk' x' y' tx' ty' F' hT' hd' hd2' hx' hy' hy2'; (have N' := hT' _ (by k_upd)); clear hT'))) | ((with_reducible show wpAny _ _ (call (Value.builtin "len") _) _ _ _); (k_here; k_dflt (refine' kst_len ?qhk1 ?qhk2 rfl ?qhk3 ?_; (case qhk1 => k_asm); (case qhk2 => exact List.Mem.head _); (case qhk3 => omega); k_whole)))) | walk1 | (dsimp only; walk1) | (leave1; walk_say "STEP leave1"; try dsimp only) | fail "no step"))
  refine' hret' _ _ _ _ _ _ _ _ _ ?v ?f ?g ?n ?x ?y ?z
  (case n => assumption)
  (case g => assumption)
  (case f => assumption)
  all_goals assumption
end Mine
end
section
open PySem PySem.W PyProof.Rows PySem.Calls
namespace Mine
set_option maxRecDepth 100000
theorem great_lo (z : Int) : 0 ≤ (if -1 - z > z then -1 - z else z) := by split <;> omega
theorem mul_ite_lo {a : Int} {c : Prop} [Decidable c] (h : 0 ≤ a) : 0 ≤ a * (if c then 1 else 0) := by split <;> omega
set_option maxHeartbeats 8000000 in
theorem pool_call {w : World} {dp un : Nat} {gd : Option (List Code)} {cn : Str} {cs : Scope} {a L : Addr} {ccd : Value} {outer : List Env} {A₀ : Around} {base h₀ : Heap} {m : Str → Option Value} {s : Shared} {Q E : Value → Shared → Prop} {news : List (Addr × Obj)} {mean : ExcName → Option Value} {mg mb : Str → Option Value} {l : Addr} {vs : List Value} {ns : List Int}
    (B : Below A₀ base outer h₀) (F : Fr h₀ L s.heap m) (X : (hd.heap_39 w.params).In h₀) (N : News h₀ L s.heap []) (T : Top hd.view_39 (looseW hd.view_39 []) mean mg mb h₀) (hk : cs.kind = .function) (hdp : dp + 12 < recursionLimit) (hun : un + 40 < cLine)
    (hl : h₀.IsList l vs.toArray) (hi : IntsAre vs ns) (hlay : PyData.layable0 (.list (ns.map .int)) = true) (hlen : ns.length ≤ 63)
    (hret : ∀ h' tk' src x y tx ty k, Fr h₀ L h' m → News h₀ L h' [(src, srcObj x y tx ty k)] → 0 ≤ x → 0 ≤ y → y < 2147483647 → Q (.ref src) { s with heap := h', toks := tk' }) :
    wpAny (model PySem.Challenge.rw_xm0811_01.row.prog w) (ktrTop dp un gd cn cs L a ccd [] outer) (call (.ref 142) [.ref l]) Q E s := by
  revert X
  k_fill
  intro X
  refine wpAny_call ?_
  k_dflt (refine' code_def ?k1 ?k2 ?k3 ?k4 ?k5 ?kA ?kF ?kK ?k6 ?k7 ?k8 ?k9 ?kB ?_ ?c2 ?c3 ?c4 ?c5; (case kA => exact rfl); (case kF => exact rfl); (case kK => assumption); (case k1 => exact B); (case k2 => exact F); (case k3 => exact X); (case k4 => exact N); (case k5 => exact T); (case k6 => k_is); (case k7 => k_is); (case k8 => ktr_room); (case k9 => exact BindsTo.of_eq rfl); (case c5 => decide); (case kB => exact locs rfl); (case c2 => exact rfl); (case c3 => exact rfl); (case c4 => exact rfl); k_whole; intro g' L' h' FG' F' N' B' X' T'; (try dsimp only); (try k_lift B'); (try k_fold))
  have hl' : g'.IsList l vs.toArray := hl.at fun o e => FG'.keep l o e
  clear hl
  (repeat' (first | (k_unfold; (try dsimp only)) | (k_end; wrow_close) | ((first | with_reducible show wpAny _ _ (eval (PySem.Expr.Call _ _ _ _) _) _ _ _ | with_reducible show wpAny _ _ (eval (PySem.Expr.List _ _) _) _ _ _ | with_reducible show wpAny _ _ (eval (PySem.Expr.Tuple _ _ _) _) _ _ _ | with_reducible show wpAny _ _ (eval (PySem.Expr.Subscript _ _ _) _) _ _ _ | with_reducible show wpAny _ _ (eval (PySem.Expr.BinOp _ _ _ _) _) _ _ _); refine qfold ?_; intro q9; walk1) | walk1 | (dsimp only; walk1) | (leave1; walk_say "STEP leave1"; try dsimp only) | fail "no step"))
  · refine' hret _ _ _ _ _ _ _ _ ?f ?n ?x ?y ?z
    (case n => assumption)
    (case f => assumption)
    · exact mul_ite_lo (great_lo _)
    · exact fm_lo (by omega)
    · exact fm_hi (by omega)
  · refine' hret _ _ _ _ _ _ _ _ ?f2 ?n2 ?x2 ?y2 ?z2
    (case n2 => assumption)
    (case f2 => assumption)
    · exact mul_ite_lo (great_lo _)
    · exact fm_lo (by omega)
    · exact fm_hi (by omega)
end Mine
end
section
open PySem PySem.W PyProof.Rows PySem.Calls
namespace Mine
set_option maxRecDepth 100000
theorem one_int {w : World} {dp un : Nat} {gd : Option (List Code)} {cn : Str} {cs : Scope} {a L : Addr} {ccd : Value} {outer : List Env} {A₀ : Around} {base h₀ : Heap} {m : Str → Option Value} {s : Shared} {Q E : Value → Shared → Prop} {news : List (Addr × Obj)} {mean : ExcName → Option Value} {mg mb : Str → Option Value} {src lt : Addr} {x y : Int} {tx ty : Tok} {k c : Nat} {vs : List Value}
    (B : Below A₀ base outer h₀) (F : Fr h₀ L s.heap m) (X : (hd.heap_39 w.params).In h₀) (N0 : News h₀ L s.heap news) (T : Top hd.view_39 (looseW hd.view_39 []) mean mg mb h₀) (hk : cs.kind = .function) (hdp : dp + 12 < recursionLimit) (hun : un + 40 < cLine)
    (hs : (src, srcObj x y tx ty k) ∈ news) (hl : (lt, listOf vs.toArray c) ∈ news) (hne : @Ne Nat lt src) (hx : 0 ≤ x) (hy : 0 ≤ y) (hy2 : y < 2147483647) (hv : (vs.all isI && !vs.isEmpty && decide (vs.length ≤ 1000)) = true)
    (hret : ∀ n t h' tk' x' y' tx' ty', n ∈ vs.map intOf → Fr h₀ L h' m → Turned h₀ L h' src (srcObj x y tx ty k) (srcObj x' y' tx' ty' k) news → 0 ≤ x' → 0 ≤ y' → y' < 2147483647 → Q (.int n t) { s with heap := h', toks := tk' }) :
    wpAny (model PySem.Challenge.rw_xm0811_01.row.prog w) (ktrTop dp un gd cn cs L a ccd [] outer) (call (.ref 156) [.ref src, .ref lt]) Q E s := by
  simp only [Bool.and_eq_true, decide_eq_true_eq, Bool.not_eq_true'] at hv
  obtain ⟨⟨hI, hv1⟩, hv2⟩ := hv
  refine one_call B F X N0 T hk hdp hun hs hl hne hx hy hy2 ?_ hv2 ?_
  · cases vs with
    | nil => simp at hv1
    | cons _ _ => exact Nat.succ_pos _
  · intro v h' tk' x' y' tx' ty' hv F' T' a b c
    obtain ⟨t, e⟩ := isI_of (List.all_eq_true.mp hI v hv)
    rw [e]
    exact hret _ t h' tk' x' y' tx' ty' (List.mem_map_of_mem hv) F' T' a b c
/-- what _law_code hands back: a frame's code, a precision that it lets, one that it does not let -/
def GoodCode (code prec other : Int) : Prop := isFrameB code = true ∧ isPrecB code prec = true ∧ isPrecB code other = false
theorem mem2 {α : Type} {p q : α} {l : List α} (hp : p ∈ l) (hq : q ∈ l) : ∀ r ∈ [p, q], r ∈ l := fun r hr => by
  rcases List.mem_cons.mp hr with rfl | hr
  · exact hp
  · rw [List.mem_singleton.mp hr]; exact hq
theorem gc_1 {code d other : Int} (hc : code ∈ [192, 193, 194, 195, 197, 198, 199, 201, 202, 203, 205, 206, 207]) (h : ([195, 199, 203, 207].any fun x => x == code) = true) (h1 : 0 ≤ d) (h2 : d < 15) (ho : other ∈ [1, 17, 0, -8]) : GoodCode code (2 + d) other := by
  simp only [List.mem_cons, List.not_mem_nil, or_false] at hc ho
  rcases hc with rfl | rfl | rfl | rfl | rfl | rfl | rfl | rfl | rfl | rfl | rfl | rfl | rfl <;> first
    | exact absurd h (by decide)
    | exact ⟨by decide, decide_eq_true (p := _) (Or.inl ⟨by decide, by omega, by omega⟩), by rcases ho with rfl | rfl | rfl | rfl <;> decide⟩
theorem gc_2 {code other : Int} (hc : code = 192) (ho : other ∈ [12, 7, 9, 16]) : GoodCode code 8 other := by
  subst hc
  simp only [List.mem_cons, List.not_mem_nil, or_false] at ho
  exact ⟨by decide, by decide, by rcases ho with rfl | rfl | rfl | rfl <;> decide⟩
theorem gc_3 {code prec other : Int} (hc : code ∈ [192, 193, 194, 195, 197, 198, 199, 201, 202, 203, 205, 206, 207]) (h : ([195, 199, 203, 207].any fun x => x == code) = false) (h2 : code ≠ 192) (hp : prec ∈ [8, 12]) (ho : other ∈ [7, 9, 11, 13, 16, 2]) : GoodCode code prec other := by
  simp only [List.mem_cons, List.not_mem_nil, or_false] at hc ho hp
  rcases hc with rfl | rfl | rfl | rfl | rfl | rfl | rfl | rfl | rfl | rfl | rfl | rfl | rfl <;> first
    | exact absurd h (by decide)
    | exact absurd rfl h2
    | exact ⟨by decide, by rcases hp with rfl | rfl <;> decide, by rcases ho with rfl | rfl | rfl | rfl | rfl | rfl <;> decide⟩
set_option maxHeartbeats 8000000 in
theorem code_call {w : World} {dp un : Nat} {gd : Option (List Code)} {cn : Str} {cs : Scope} {a L : Addr} {ccd : Value} {outer : List Env} {A₀ : Around} {base h₀ : Heap} {m : Str → Option Value} {s : Shared} {Q E : Value → Shared → Prop} {news : List (Addr × Obj)} {mean : ExcName → Option Value} {mg mb : Str → Option Value} {src : Addr} {x y : Int} {tx ty : Tok} {k : Nat}
    (B : Below A₀ base outer h₀) (F : Fr h₀ L s.heap m) (X : (hd.heap_39 w.params).In h₀) (N0 : News h₀ L s.heap news) (T : Top hd.view_39 (looseW hd.view_39 []) mean mg mb h₀) (hk : cs.kind = .function) (hdp : dp + 20 < recursionLimit) (hun : un + 60 < cLine)
    (hs : (src, srcObj x y tx ty k) ∈ news) (hx : 0 ≤ x) (hy : 0 ≤ y) (hy2 : y < 2147483647)
    (hret : ∀ (code prec other : Int) t1 t2 t3 tup h' tk' x' y' tx' ty', GoodCode code prec other → @Ne Nat tup src → Fr h₀ L h' m → Turned h₀ L h' src (srcObj x y tx ty k) (srcObj x' y' tx' ty' k) news → News h₀ L h' [(tup, tupObj [.int code t1, .int prec t2, .int other t3])] → 0 ≤ x' → 0 ≤ y' → y' < 2147483647 → Q (.ref tup) { s with heap := h', toks := tk' }) :
    wpAny (model PySem.Challenge.rw_xm0811_01.row.prog w) (ktrTop dp un gd cn cs L a ccd [] outer) (call (.ref 168) [.ref src]) Q E s := by
  revert X
  k_fill
  intro X
  have N : News h₀ L s.heap [(src, srcObj x y tx ty k)] := news_one N0 hs
  refine wpAny_call ?_
  k_dflt (refine' code_defG ?k1 ?k2 ?k3 ?k4 ?k5 ?kA ?kF ?kK ?k6 ?k7 ?k8 ?k9 ?kB ?_ ?c2 ?c3 ?c4 ?c5; (case kA => exact rfl); (case kF => exact rfl); (case kK => assumption); (case k1 => exact B); (case k2 => exact F); (case k3 => exact X); (case k4 => exact N); (case k5 => exact T); (case k6 => k_is); (case k7 => k_is); (case k8 => ktr_room); (case k9 => exact BindsTo.of_eq rfl); (case c5 => decide); (case kB => exact locs rfl); (case c2 => exact rfl); (case c3 => exact rfl); (case c4 => exact rfl); k_whole; intro g' L' h' FG' F' N' B' X' T' hG; (try dsimp only); (try k_lift B'); (try k_fold))
  have hret' : ∀ (code prec other : Int) t1 t2 t3 tup h' tk' L'' m' x' y' tx' ty', GoodCode code prec other → @Ne Nat tup src → Fr h₀ L h' m → Fr g' L'' h' m' → News h₀ L h' [(tup, tupObj [.int code t1, .int prec t2, .int other t3]), (src, srcObj x' y' tx' ty' k)] → 0 ≤ x' → 0 ≤ y' → y' < 2147483647 → Q (.ref tup) { s with heap := h', toks := tk' } :=
    fun code prec other t1 t2 t3 tup h' tk' L'' m' x' y' tx' ty' gc hne F1 F2 N1 => hret code prec other t1 t2 t3 tup h' tk' x' y' tx' ty' gc hne F1 (turned_of N0 hG F2 (cb_drop N1 fun p hp => .tail _ hp)) (cb_drop N1 fun p hp => by rw [List.mem_singleton.mp hp]; exact .head _)
  clear hret N0 hs
  (repeat' (first | (k_unfold; (try dsimp only)) | (k_end; wrow_close) | (first | (with_reducible (first | ((with_reducible show wpAny _ _ (call (Value.ref _) _) _ _ _); first | (k_here; (with_reducible show wpAny _ _ (call (Value.ref 156) [Value.ref _, Value.ref _]) _ _ _); k_dflt (refine' one_int ?qhk1 ?qhk2 ?qhk3 ?qhk4 ?qhk5 ?qhk6 ?qhk7 ?qhk8 ?qhhs ?qhhl ?qhhne ?qhhx ?qhhy ?qhhy2 ?qhhv ?_; (case qhk1 => k_asm); (case qhk2 => k_asm); (case qhk3 => k_asm); (case qhk4 => k_asm); (case qhk5 => k_asm); (case qhk6 => first | exact rfl | assumption); (case qhhs => k_mem); (case qhhl => k_mem); (case qhhne => omega); (case qhhx => assumption); (case qhhy => assumption); (case qhhy2 => assumption); (case qhhv => rfl); (case qhk7 => ktr_room); (case qhk8 => ktr_units); k_whole); k_dflt (intro n' t' h' tk' x' y' tx' ty' hn' F' hT' hx' hy' hy2'; (have N' := hT' _ (by k_upd)); clear hT'; (simp only [List.map_cons, List.map_nil, intOf] at hn'))) | (k_here; (with_reducible show wpAny _ _ (call (Value.ref 149) [Value.ref _, Value.int _ _]) _ _ _); k_dflt (refine' take_call ?qhk1 ?qhk2 ?qhk3 ?qhk4 ?qhk5 ?qhk6 ?qhk7 ?qhk8 ?qhhs ?qhhx ?qhhy ?qhhy2 ?qhht ?qhht2 ?_; (case qhk1 => k_asm); (case qhk2 => k_asm); (case qhk3 => k_asm); (case qhk4 => k_asm); (case qhk5 => k_asm); (case qhk6 => first | exact rfl | assumption); (case qhhs => k_mem); (case qhhx => assumption); (case qhhy => assumption); (case qhhy2 => assumption); (case qhht => omega); (case qhht2 => omega); (case qhk7 => ktr_room); (case qhk8 => ktr_units); k_whole); k_dflt (intro d' t' h' tk' x' y' tx' ty' F' hT' hd' hd2' hx' hy' hy2'; (have N' := hT' _ (by k_upd)); clear hT'))))) | ((with_reducible show wpAny _ _ (call (Value.ref _) _) _ _ _); (k_here; (with_reducible show wpAny _ _ (call (Value.ref 156) [Value.ref _, Value.ref _]) _ _ _); k_dflt (refine' one_int ?qhk1 ?qhk2 ?qhk3 ?qhk4 ?qhk5 ?qhk6 ?qhk7 ?qhk8 ?qhhs ?qhhl ?qhhne ?qhhx ?qhhy ?qhhy2 ?qhhv ?_; (case qhk1 => k_asm); (case qhk2 => k_asm); (case qhk3 => k_asm); (case qhk4 => k_asm); (case qhk5 => k_asm); (case qhk6 => first | exact rfl | assumption); (case qhhs => k_mem); (case qhhl => k_mem); (case qhhne => omega); (case qhhx => assumption); (case qhhy => assumption); (case qhhy2 => assumption); (case qhhv => rfl); (case qhk7 => ktr_room); (case qhk8 => ktr_units); k_whole); k_dflt (intro n' t' h' tk' x' y' tx' ty' hn' F' hT' hx' hy' hy2'; (have N' := hT' _ (by k_upd)); clear hT'; (simp only [List.map_cons, List.map_nil, intOf] at hn')))) | ((with_reducible show wpAny _ _ (call (Value.ref _) _) _ _ _); (k_here; (with_reducible show wpAny _ _ (call (Value.ref 149) [Value.ref _, Value.int _ _]) _ _ _); k_dflt (refine' take_call ?qhk1 ?qhk2 ?qhk3 ?qhk4 ?qhk5 ?qhk6 ?qhk7 ?qhk8 ?qhhs ?qhhx ?qhhy ?qhhy2 ?qhht ?qhht2 ?_; (case qhk1 => k_asm); (case qhk2 => k_asm); (case qhk3 => k_asm); (case qhk4 => k_asm); (case qhk5 => k_asm); (case qhk6 => first | exact rfl | assumption); (case qhhs => k_mem); (case qhhx => assumption); (case qhhy => assumption); (case qhhy2 => assumption); (case qhht => omega); (case qhht2 => omega); (case qhk7 => ktr_room); (case qhk8 => ktr_units); k_whole); k_dflt (intro d' t' h' tk' x' y' tx' ty' F' hT' hd' hd2' hx' hy' hy2'; (have N' := hT' _ (by k_upd)); clear hT')))) | ((first | with_reducible show wpAny _ _ (eval (PySem.Expr.Call _ _ _ _) _) _ _ _ | with_reducible show wpAny _ _ (eval (PySem.Expr.List _ _) _) _ _ _ | with_reducible show wpAny _ _ (eval (PySem.Expr.Tuple _ _ _) _) _ _ _ | with_reducible show wpAny _ _ (eval (PySem.Expr.Subscript _ _ _) _) _ _ _ | with_reducible show wpAny _ _ (eval (PySem.Expr.BinOp _ _ _ _) _) _ _ _); refine qfold ?_; intro q9; walk1) | walk1 | (dsimp only; walk1) | (leave1; walk_say "STEP leave1"; try dsimp only) | fail "no step"))
  · refine' hret' _ _ _ _ _ _ _ _ _ _ _ _ _ _ _ ?gc0 ?ne0 ?f0 ?g0 ?n0 ?x0 ?y0 ?z0
    (case n0 => (refine' cb_drop ?na0 ?nb0; (case na0 => assumption); (case nb0 => exact mem2 (by k_mem) (by k_mem))))
    (case g0 => assumption)
    (case f0 => assumption)
    (case ne0 => omega)
    (case gc0 => exact gc_1 (by assumption) (by assumption) (by assumption) (by assumption) (by assumption))
    all_goals assumption
  · refine' hret' _ _ _ _ _ _ _ _ _ _ _ _ _ _ _ ?gc1 ?ne1 ?f1 ?g1 ?n1 ?x1 ?y1 ?z1
    (case n1 => (refine' cb_drop ?na1 ?nb1; (case na1 => assumption); (case nb1 => exact mem2 (by k_mem) (by k_mem))))
    (case g1 => assumption)
    (case f1 => assumption)
    (case ne1 => omega)
    (case gc1 => exact gc_2 (by assumption) (by assumption))
    all_goals assumption
  · refine' hret' _ _ _ _ _ _ _ _ _ _ _ _ _ _ _ ?gc2 ?ne2 ?f2 ?g2 ?n2 ?x2 ?y2 ?z2
    (case n2 => (refine' cb_drop ?na2 ?nb2; (case na2 => assumption); (case nb2 => exact mem2 (by k_mem) (by k_mem))))
    (case g2 => assumption)
    (case f2 => assumption)
    (case ne2 => omega)
    (case gc2 => exact gc_3 (by assumption) (by assumption) (by assumption) (by assumption) (by assumption))
    all_goals assumption
end Mine
end
section
open PySem PySem.W PyProof.Rows PySem.Calls
namespace Mine
set_option maxRecDepth 100000
def GoodRow (c : Row) : Prop := 0 ≤ c.1 ∧ c.1 ≤ 255 ∧ 1 ≤ c.2.1 ∧ c.2.1 ≤ 4 ∧ 1 ≤ c.2.2.1 ∧ c.2.2.1 ≤ 4 ∧ 0 ≤ c.2.2.2 ∧ c.2.2.2 ≤ 3
def GoodRows (rows : List Row) : Prop := (1 ≤ rows.length ∧ rows.length ≤ 5) ∧ (∀ c ∈ rows, GoodRow c) ∧ (rows.map (·.1)).Nodup
def GoodH (h : Int) : Prop := 0 ≤ h ∧ h ≤ 65535
def GoodW (w : Int) : Prop := 1 ≤ w ∧ w ≤ 65535
theorem gr_none {c : Row} (h : GoodRow c) : compMsg c = none := compMsg_0 h
theorem gr_rows {rows : List Row} (h : ∀ c ∈ rows, GoodRow c) : rows.findSome? compMsg = none := List.findSome?_eq_none_iff.mpr fun c hc => gr_none (h c hc)
theorem tv_of {code prec h w : Int} {rows : List Row} {msg : Str} (q : frameMsg code prec h w rows = some msg) : toldS code prec h w rows = msg := (told_1 q).symm
theorem tv_first : toldS 192 8 5 0 [(1, 1, 1, 0)] = PySem.Str.ofString "a width is from 1 to 65535" := tv_of (fm_4 (by decide) (by decide) (by decide) (by decide))
theorem tv_ok {code prec other h w : Int} {rows : List Row} (g : GoodCode code prec other) (hh : GoodH h) (hw : GoodW w) (hr : GoodRows rows) : toldS code prec h w rows = PySem.Str.ofString "" :=
  (told_0 (fm_0 g.1 g.2.1 hh hw ⟨hr.1.1, by have := hr.1.2; omega⟩ (gr_rows hr.2.1) (decide_eq_true hr.2.2))).symm
theorem tv_odd {odd prec h w : Int} {rows : List Row} (g : odd ∈ [196, 200, 204, 191, 208, 222, 0]) : toldS odd prec h w rows = PySem.Str.ofString "the marker is none of a frame" := by
  refine tv_of (fm_1 ?_)
  simp only [List.mem_cons, List.not_mem_nil, or_false] at g
  rcases g with rfl | rfl | rfl | rfl | rfl | rfl | rfl <;> decide
theorem tv_other {code prec other h w : Int} {rows : List Row} (g : GoodCode code prec other) : toldS code other h w rows = PySem.Str.ofString "a frame with samples of so many bits is not let" := tv_of (fm_2 g.1 g.2.2)
theorem tv_h {code prec other h w : Int} {rows : List Row} (g : GoodCode code prec other) (hh : h ∈ [-1, 65536]) : toldS code prec h w rows = PySem.Str.ofString "a height is from 0 to 65535" := by
  refine tv_of (fm_3 g.1 g.2.1 ?_)
  simp only [List.mem_cons, List.not_mem_nil, or_false] at hh
  omega
theorem tv_w {code prec other h w : Int} {rows : List Row} (g : GoodCode code prec other) (hh : GoodH h) (hw : w ∈ [0, -1, 65536]) : toldS code prec h w rows = PySem.Str.ofString "a width is from 1 to 65535" := by
  refine tv_of (fm_4 g.1 g.2.1 hh ?_)
  simp only [List.mem_cons, List.not_mem_nil, or_false] at hw
  omega
theorem tv_many {code prec other h w : Int} {rows : List Row} (g : GoodCode code prec other) (hh : GoodH h) (hw : GoodW w) (hr : ¬ (1 ≤ rows.length ∧ rows.length ≤ 255)) : toldS code prec h w rows = PySem.Str.ofString "a frame has 1 to 255 components" := tv_of (fm_5 g.1 g.2.1 hh hw hr)
theorem tv_bent {code prec other h w : Int} {rows : List Row} {msg : Str} (g : GoodCode code prec other) (hh : GoodH h) (hw : GoodW w) (hr : 1 ≤ rows.length ∧ rows.length ≤ 255) (hm : rows.findSome? compMsg = some msg) : toldS code prec h w rows = msg := tv_of (fm_6 g.1 g.2.1 hh hw hr hm)
theorem tv_dup {code prec other h w : Int} {rows : List Row} (g : GoodCode code prec other) (hh : GoodH h) (hw : GoodW w) (hr : GoodRows rows) {c : Row} (hc : c ∈ rows) : toldS code prec h w (rows ++ [c]) = PySem.Str.ofString "a component stands twice" := by
  refine tv_of (fm_7 g.1 g.2.1 hh hw ?_ (gr_rows ?_) ?_)
  · have := hr.1
    rw [List.length_append]
    simp only [List.length_cons, List.length_nil]
    omega
  · intro c' hc'
    rcases List.mem_append.mp hc' with q | q
    · exact hr.2.1 c' q
    · rw [List.mem_singleton.mp q]; exact hr.2.1 c hc
  · refine decide_eq_false fun hn => ?_
    rw [List.map_append, List.nodup_append] at hn
    exact hn.2.2 c.1 (List.mem_map_of_mem hc) c.1 (by simp) rfl
/-- one row of good rows is made bad: it is the first to speak -/
theorem bad_at {rows : List Row} {c : Row} {msg : Str} : ∀ {pre post : List Row}, (∀ c ∈ pre, GoodRow c) → compMsg c = some msg → (pre ++ c :: post).findSome? compMsg = some msg := fun {pre post} h hc => by
  rw [List.findSome?_append, gr_rows h, List.findSome?_cons, hc]
  rfl
theorem bad_0 {c : Row} {n : Int} (hn : n ∈ [-1, 256]) : compMsg (n, c.2.1, c.2.2.1, c.2.2.2) = some (PySem.Str.ofString "a component's name is a number of one octet") := by
  simp only [List.mem_cons, List.not_mem_nil, or_false] at hn
  exact compMsg_1 (by omega)
theorem bad_1 {c : Row} {n : Int} (h : GoodRow c) (hn : n ∈ [0, 5, -1]) : compMsg (c.1, n, c.2.2.1, c.2.2.2) = some (PySem.Str.ofString "a sampling factor is from 1 to 4") := by
  simp only [List.mem_cons, List.not_mem_nil, or_false] at hn
  obtain ⟨h1, h2, _⟩ := h
  exact compMsg_2 ⟨⟨h1, h2⟩, by omega⟩
theorem bad_2 {c : Row} {n : Int} (h : GoodRow c) (hn : n ∈ [0, 5, -1]) : compMsg (c.1, c.2.1, n, c.2.2.2) = some (PySem.Str.ofString "a sampling factor is from 1 to 4") := by
  simp only [List.mem_cons, List.not_mem_nil, or_false] at hn
  obtain ⟨h1, h2, h3, h4, _⟩ := h
  exact compMsg_3 ⟨⟨h1, h2⟩, ⟨h3, h4⟩, by omega⟩
theorem bad_3 {c : Row} {n : Int} (h : GoodRow c) (hn : n ∈ [-1, 4]) : compMsg (c.1, c.2.1, c.2.2.1, n) = some (PySem.Str.ofString "a slot is from 0 to 3") := by
  simp only [List.mem_cons, List.not_mem_nil, or_false] at hn
  obtain ⟨h1, h2, h3, h4, h5, h6, _⟩ := h
  exact compMsg_4 ⟨⟨h1, h2⟩, ⟨h3, h4⟩, ⟨h5, h6⟩, by omega⟩
theorem goodH_of {h : Int} (hh : h ∈ [0, 1, 65535, 600]) : GoodH h := by
  simp only [List.mem_cons, List.not_mem_nil, or_false] at hh
  unfold GoodH
  omega
theorem goodW_of {w d : Int} (hw : w ∈ [1, 65535, 2 + d]) (h0 : 0 ≤ d) (h1 : d < 900) : GoodW w := by
  simp only [List.mem_cons, List.not_mem_nil, or_false] at hw
  unfold GoodW
  omega
theorem first_of {f : Int} (hf : f ∈ [0, 1, 252]) : 0 ≤ f ∧ f ≤ 252 := by
  simp only [List.mem_cons, List.not_mem_nil, or_false] at hf
  omega
end Mine
end
section
open PySem PySem.W PyProof.Rows PySem.Calls
namespace Mine
set_option maxRecDepth 100000
section
variable {prog : Program} {w : World} {A : Around} {E : Value → Shared → Prop} {s : Shared} {h₀ : Heap} {L : Addr} {m : Str → Option Value} {news : List (Addr × Obj)}
theorem adjust_upto (b n : Nat) (hb : b ≤ n) : Builtin.Slice.sliceAdjust none (some (b : Int)) 1 (n : Int) = (0, (b : Int)) := by
  unfold Builtin.Slice.sliceAdjust
  have h1 : ¬ ((1 : Int) < 0) := by omega
  have h2 : ¬ ((b : Int) < 0) := by omega
  simp only [h1, h2, if_false]
  congr 1
  omega
theorem places_upto (b : Nat) : Builtin.Slice.slicePlaces 0 (b : Int) 1 = b := by
  unfold Builtin.Slice.slicePlaces
  have h1 : (1 : Int) > 0 := by omega
  simp only [h1, if_true, Int.ediv_one]
  split <;> omega
theorem sliceApplied_upto {sl : Addr} {b n : Nat} {u : Tok} {Q : Int × Int × Nat → Shared → Prop} (hs : s.heap.IsSliceOf sl .none (.int b u) .none) (hb : b ≤ n) (h : Q (0, 1, b) s) :
    wpAny (model prog w) A (Builtin.Slice.sliceApplied (.ref sl) (pure (n : Int))) Q E s := by
  obtain ⟨os, hos, hcs, hds⟩ := id hs
  unfold Builtin.Slice.sliceApplied Builtin.Slice.sliceFields
  refine wpAny_bind (wpAny_bind (wpAny_field hos hds (x := .none) rfl (wpAny_bind (wpAny_field hos hds (x := .int b u) rfl (wpAny_bind (wpAny_field hos hds (x := .none) rfl (wpAny_pure ?_)))))))
  refine wpAny_bind (slicePart_none ?_)
  show wpAny _ _ (if ((1 : Int) == 0) = true then _ else _) _ _ s
  rw [if_neg (by decide)]
  refine wpAny_bind (slicePart_none (wpAny_bind (slicePart_int (wpAny_bind (wpAny_pure ?_)))))
  show wpAny _ _ (match Builtin.Slice.sliceAdjust none (some (b : Int)) 1 (n : Int) with | (lo, hi) => pure (lo, (1 : Int), Builtin.Slice.slicePlaces lo hi 1)) _ _ s
  rw [adjust_upto b n hb]
  show wpAny _ _ (pure ((0 : Int), (1 : Int), Builtin.Slice.slicePlaces 0 (b : Int) 1)) _ _ s
  rw [places_upto b]
  exact wpAny_pure h
theorem pick_upto (xs : Array Value) (b : Nat) : ((List.range b).filterMap fun (k : Nat) => xs[((0 : Int) + (k : Int) * 1).toNat]?).toArray = (xs.toList.take b).toArray := by
  have e : (fun (k : Nat) => xs[((0 : Int) + (k : Int) * 1).toNat]?) = fun k => xs[0 + k]? := by
    funext k
    have : ((0 : Int) + (k : Int) * 1).toNat = 0 + k := by omega
    rw [this]
  rw [e]
  have := pick_run xs 0 b
  rw [List.filterMap_map] at this
  have e2 : ((fun x => xs[x]?) ∘ fun x => 0 + x) = fun k => xs[0 + k]? := rfl
  rw [e2] at this
  rw [this, List.drop_zero]
theorem getItem_tuple_upto {t sl : Addr} {items : Array Value} {b : Nat} {u : Tok} {Q : Value → Shared → Prop} (ht : IsTup s.heap t items) (hs : s.heap.IsSliceOf sl .none (.int b u) .none) (hb : b < items.size)
    (h : Q (.ref s.heap.objs.size) { s with heap := s.heap.push { cls := .type "tuple", data := .seq (items.toList.take b).toArray } })
    (hsz : items.size ≤ sizeLine) : wpAny (model prog w) A (getItem (.ref t) (.ref sl)) Q E s := by
  have hdrop : sizeOk (.seq (items.toList.take b).toArray) := by
    show (items.toList.take b).toArray.size ≤ sizeLine
    rw [List.size_toArray, List.length_take, Array.length_toList]
    omega
  obtain ⟨os, hos, hcs, hds⟩ := id hs
  have hTs : s.TypeIs (.ref sl) "slice" := ⟨os, hos, hcs⟩
  unfold getItem
  try with_reducible refine wpAny_holding ?_
  first | refine wpAny_bind (wpAny_pure ?_) | skip
  refine wpAny_bind (wpAny_sequenceKey ht.typeIs (by decide) ?_)
  refine wpAny_bind (wpAny_callSpecial?_slot (name := Str.ofString "__getitem__") ht.typeIs slot_tuple_getitem
    (wpAny_call_entry slot_tuple_getitem ht.typeIs entry_tuple_getitem ?_ (args_tuple_getitem _ _)))
  show wpAny _ _ (Builtin.Tuple.tupleItemsOf (.ref t) >>= _) _ _ s
  refine wpAny_bind (tupleItemsOf_ ht ?_)
  refine wpAny_bind (wpAny_typeOf hTs ?_)
  rw [if_pos (by decide)]
  refine wpAny_bind (sliceApplied_upto hs (Nat.le_of_lt hb) ?_)
  have hno : ¬ (((0 : Int) == 0 && (1 : Int) == 1 && b == items.size) = true) := by
    have : (b == items.size) = false := by rw [beq_eq_false_iff_ne]; omega
    rw [this]; simp
  show wpAny _ _ (if ((0 : Int) == 0 && (1 : Int) == 1 && b == items.size) = true then _ else _) _ _ s
  rw [if_neg hno, pick_upto items b]
  first
    | exact wpAny_bind (m := Builtin.Tuple.tupleExact _) (wpAny_newObj_type (wpAny_pure ⟨_, rfl, wpAny_pure h⟩) hdrop)
    | exact wpAny_bind (m := Builtin.Tuple.tupleExact _) (wpAny_newObj_type (wpAny_bind (wpAny_pure (wpAny_pure ⟨_, rfl, wpAny_pure h⟩))) hdrop)
    | exact wpAny_bind (wpAny_bind (m := Builtin.Tuple.tupleExact _) (wpAny_newObj_type (wpAny_pure (wpAny_pure ⟨_, rfl, wpAny_pure h⟩)) hdrop))
    | exact wpAny_bind (wpAny_bind (m := Builtin.Tuple.tupleExact _) (wpAny_newObj_type (wpAny_pure ⟨_, rfl, wpAny_pure h⟩) hdrop))
theorem tup_upto {value slice : PySem.Expr} {t : Addr} {items : Array Value} {zs : List Value} {b : Int} {u : Tok} {Q : Value → Shared → Prop}
    (F : Fr h₀ L s.heap m) (N : News h₀ L s.heap news) (ht : (t, ({ cls := .type "tuple", data := .seq items } : Obj)) ∈ news) (h0 : 0 ≤ b) (hb : b.toNat < items.size) (e : items.toList.take b.toNat = zs)
    (h : ∀ D h', Fr h₀ L h' m → News h₀ L h' ((D, tupObj zs) :: news) → (∀ p ∈ news, p.1 < D) → Q (.ref D) { s with heap := h' })
    (hs : subscripted slice false (.ref t) (.ref s.heap.objs.size) = operate [.ref s.heap.objs.size, .ref t] (getItem (.ref t) (.ref s.heap.objs.size)))
    (hg : ∀ r, letTemporaryGo value (.ref t) r = pure ())
    (hsz : items.size ≤ sizeLine) :
    wpAny (model prog w) A (subscriptTail value slice (.ref t) (.ref s.heap.objs.size)) Q E { s with heap := s.heap.push { cls := .type "slice", data := .fields #[.none, .int b u, .none] } } := by
  subst e
  have hb' : b = (b.toNat : Int) := by omega
  have ht0 : IsTup s.heap t items := ⟨_, (N _ ht).1, rfl, _, rfl⟩
  have ht' : IsTup (s.heap.push { cls := .type "slice", data := .fields #[.none, .int b u, .none] }) t items := ht0.keeps fun _ _ e => Heap.get?_push_of_some _ e
  refine subscriptTail_ops (s := { s with heap := s.heap.push { cls := .type "slice", data := .fields #[.none, .int b u, .none] } }) ht'.typeIs slot_tuple_getitem.lookup
    (getItem_tuple_upto (b := b.toNat) (u := u) ht' (by rw [← hb']; exact Heap.IsSliceOf.new ..) hb ?_ hsz) hs hg
  have N1 := News.push (F.push { cls := .type "slice", data := .fields #[.none, .int b u, .none] }) (N.grown fun _ _ e => Heap.get?_push_of_some _ e) { cls := .type "tuple", data := .seq (items.toList.take b.toNat).toArray }
  rw [Heap.size_push] at N1
  show Q (.ref (s.heap.push _).objs.size) _
  rw [Heap.size_push]
  exact h _ _ ((F.push _).push _) N1 fun p hp => Nat.lt_succ_of_lt (Heap.lt_size (N p hp).1)
theorem tup_from {value slice : PySem.Expr} {t : Addr} {items : Array Value} {zs : List Value} {a : Int} {u : Tok} {Q : Value → Shared → Prop}
    (F : Fr h₀ L s.heap m) (N : News h₀ L s.heap news) (ht : (t, ({ cls := .type "tuple", data := .seq items } : Obj)) ∈ news) (h1 : 1 ≤ a) (ha : a.toNat ≤ items.size) (e : items.toList.drop a.toNat = zs)
    (h : ∀ D h', Fr h₀ L h' m → News h₀ L h' ((D, tupObj zs) :: news) → (∀ p ∈ news, p.1 < D) → Q (.ref D) { s with heap := h' })
    (hs : subscripted slice false (.ref t) (.ref s.heap.objs.size) = operate [.ref s.heap.objs.size, .ref t] (getItem (.ref t) (.ref s.heap.objs.size)))
    (hg : ∀ r, letTemporaryGo value (.ref t) r = pure ())
    (hsz : items.size ≤ sizeLine) :
    wpAny (model prog w) A (subscriptTail value slice (.ref t) (.ref s.heap.objs.size)) Q E { s with heap := s.heap.push { cls := .type "slice", data := .fields #[.int a u, .none, .none] } } := by
  subst e
  have ha' : a = (a.toNat : Int) := by omega
  have ht0 : IsTup s.heap t items := ⟨_, (N _ ht).1, rfl, _, rfl⟩
  rw [ha']
  exact slice_tuple_from F N ht0 (by omega) ha (fun h' F' N' => h _ h' F' N' fun p hp => Nat.lt_succ_of_lt (Heap.lt_size (N p hp).1)) hs hg hsz
theorem item_at {value slice : PySem.Expr} {l : Addr} {vs : List Value} {c : Nat} {d : Int} {u : Tok} {x : Value} {Q : Value → Shared → Prop}
    (N : News h₀ L s.heap news) (hl : (l, listOf vs.toArray c) ∈ news) (h0 : 0 ≤ d) (h1 : d < 1000) (hx : vs[d.toNat]? = some x) (h : Q x s)
    (hs : subscripted slice false (.ref l) (.int d u) = operate [.ref l, .int d u] (getItem (.ref l) (.int d u))) :
    wpAny (model prog w) A (subscriptTail value slice (.ref l) (.int d u)) Q E s := by
  have hL : s.heap.IsList l vs.toArray := ⟨_, (N _ hl).1, rfl, _, rfl⟩
  exact tail_any hL.typeIs slot_list_getitem.lookup (wpAny_getItem_list hL h0 (by omega) (by rw [List.getElem?_toArray]; exact hx) h) hs
theorem list_upto {value slice : PySem.Expr} {l : Addr} {vs : List Value} {c : Nat} {d : Int} {u : Tok} {Q : Value → Shared → Prop}
    (F : Fr h₀ L s.heap m) (N : News h₀ L s.heap news) (hl : (l, listOf vs.toArray c) ∈ news) (h0 : 0 ≤ d) (h1 : d.toNat ≤ vs.length) (hz : vs.length ≤ 1000)
    (h : ∀ D h', Fr h₀ L h' m → News h₀ L h' ((D, listOf (vs.take d.toNat).toArray 0) :: news) → (∀ p ∈ news, p.1 < D) → Q (.ref D) { s with heap := h' })
    (hs : subscripted slice false (.ref l) (.ref s.heap.objs.size) = operate [.ref s.heap.objs.size, .ref l] (getItem (.ref l) (.ref s.heap.objs.size)))
    (hg : ∀ r, letTemporaryGo value (.ref l) r = pure ()) :
    wpAny (model prog w) A (subscriptTail value slice (.ref l) (.ref s.heap.objs.size)) Q E { s with heap := s.heap.push { cls := .type "slice", data := .fields #[.none, .int d u, .none] } } := by
  have hL : s.heap.IsList l vs.toArray := ⟨_, (N _ hl).1, rfl, _, rfl⟩
  refine kms_slice_lit F N hL .none (.int d u) ?_ h hs hg (by rw [List.size_toArray, sizeLine_eq]; omega)
  unfold kms_pick kms_lo kms_hi
  simp only [if_neg (show ¬ d < 0 by omega)]
  rw [List.drop_zero, Nat.sub_zero, Nat.min_eq_left h1]
theorem list_from {value slice : PySem.Expr} {l : Addr} {vs : List Value} {c : Nat} {d : Int} {u : Tok} {Q : Value → Shared → Prop}
    (F : Fr h₀ L s.heap m) (N : News h₀ L s.heap news) (hl : (l, listOf vs.toArray c) ∈ news) (h0 : 0 ≤ d) (h1 : d.toNat ≤ vs.length) (hz : vs.length ≤ 1000)
    (h : ∀ D h', Fr h₀ L h' m → News h₀ L h' ((D, listOf (vs.drop d.toNat).toArray 0) :: news) → (∀ p ∈ news, p.1 < D) → Q (.ref D) { s with heap := h' })
    (hs : subscripted slice false (.ref l) (.ref s.heap.objs.size) = operate [.ref s.heap.objs.size, .ref l] (getItem (.ref l) (.ref s.heap.objs.size)))
    (hg : ∀ r, letTemporaryGo value (.ref l) r = pure ()) :
    wpAny (model prog w) A (subscriptTail value slice (.ref l) (.ref s.heap.objs.size)) Q E { s with heap := s.heap.push { cls := .type "slice", data := .fields #[.int d u, .none, .none] } } := by
  have hL : s.heap.IsList l vs.toArray := ⟨_, (N _ hl).1, rfl, _, rfl⟩
  refine kms_slice_lit F N hL (.int d u) .none ?_ h hs hg (by rw [List.size_toArray, sizeLine_eq]; omega)
  unfold kms_pick kms_lo kms_hi
  simp only [if_neg (show ¬ d < 0 by omega)]
  rw [Nat.min_eq_left h1]
  exact List.take_of_length_le (by rw [List.length_drop]; exact Nat.le_refl _)
theorem list_add {a b : Addr} {xs ys : List Value} {c1 c2 : Nat} {Q : Value → Shared → Prop}
    (F : Fr h₀ L s.heap m) (N : News h₀ L s.heap news) (ha : (a, listOf xs.toArray c1) ∈ news) (hb : (b, listOf ys.toArray c2) ∈ news) (hz : xs.length + ys.length ≤ 1000)
    (h : ∀ D h', Fr h₀ L h' m → News h₀ L h' ((D, listOf (xs ++ ys).toArray 0) :: news) → (∀ p ∈ news, p.1 < D) → Q (.ref D) { s with heap := h' }) :
    wpAny (model prog w) A (binaryOp .Add (.ref a) (.ref b)) Q E s :=
  kmk_add_lit F N ⟨_, (N _ ha).1, rfl, _, rfl⟩ ⟨_, (N _ hb).1, rfl, _, rfl⟩ rfl h (by rw [sizeLine_eq]; show xs.length + ys.length ≤ _; omega)
theorem tup_add {t b : Addr} {xs ys zs : List Value} {Q : Value → Shared → Prop}
    (F : Fr h₀ L s.heap m) (N : News h₀ L s.heap news) (ha : (t, tupObj xs) ∈ news) (hb : (b, tupObj ys) ∈ news) (h1 : xs.isEmpty = false) (h2 : ys.isEmpty = false) (hz : xs.length + ys.length ≤ 1000) (e : xs ++ ys = zs)
    (h : ∀ D h', Fr h₀ L h' m → News h₀ L h' ((D, tupObj zs) :: news) → (∀ p ∈ news, p.1 < D) → Q (.ref D) { s with heap := h' }) :
    wpAny (model prog w) A (binaryOp .Add (.ref t) (.ref b)) Q E s :=
  kde_addT F N ⟨_, (N _ ha).1, rfl, _, rfl⟩ ⟨_, (N _ hb).1, rfl, _, rfl⟩ (fun q => by rw [show xs = [] from q] at h1; exact absurd h1 (by decide)) (fun q => by rw [show ys = [] from q] at h2; exact absurd h2 (by decide)) (by show xs.length + ys.length ≤ _; omega) e h
theorem tup_add0 {t b : Addr} {xs ys : List Value} {Q : Value → Shared → Prop}
    (F : Fr h₀ L s.heap m) (N : News h₀ L s.heap news) (ha : (t, tupObj xs) ∈ news) (hb : (b, tupObj ys) ∈ news) (h1 : xs.isEmpty = true) (hz : xs.length + ys.length ≤ 1000) (h : Q (.ref b) s) :
    wpAny (model prog w) A (binaryOp .Add (.ref t) (.ref b)) Q E s :=
  kde_addT0 F N ⟨_, (N _ ha).1, rfl, _, rfl⟩ ⟨_, (N _ hb).1, rfl, _, rfl⟩ (List.isEmpty_iff.mp h1) (by show xs.length + ys.length ≤ _; omega) h
theorem tup_add1 {t b : Addr} {xs ys : List Value} {Q : Value → Shared → Prop}
    (F : Fr h₀ L s.heap m) (N : News h₀ L s.heap news) (ha : (t, tupObj xs) ∈ news) (hb : (b, tupObj ys) ∈ news) (h1 : xs.isEmpty = false) (h2 : ys.isEmpty = true) (hz : xs.length + ys.length ≤ 1000) (h : Q (.ref t) s) :
    wpAny (model prog w) A (binaryOp .Add (.ref t) (.ref b)) Q E s :=
  kde_addT1 F N ⟨_, (N _ ha).1, rfl, _, rfl⟩ ⟨_, (N _ hb).1, rfl, _, rfl⟩ (fun q => by rw [show xs = [] from q] at h1; exact absurd h1 (by decide)) (List.isEmpty_iff.mp h2) (by show xs.length + ys.length ≤ _; omega) h
end
end Mine
end
section
open PySem PySem.W PyProof.Rows PySem.Calls
namespace Mine
set_option maxRecDepth 100000
theorem lite_two {h₀ H g h' : Heap} {L L' : Addr} {m' : Str → Option Value} {p q r s : Addr × Obj} {news small' : List (Addr × Obj)} (N : News h₀ L H news) (hG : GSub H g ([p, q].map (·.1))) (F' : Fr g L' h' m') (Ns : News h₀ L h' small') (N0 : News h₀ L H [p, q]) (hs : ∀ x ∈ [p, q], x ∈ small') (hr : r ∈ small') (hq : s ∈ small') : News h₀ L h' (r :: s :: news) := fun x hx => by
  rcases List.mem_cons.mp hx with rfl | hx
  · exact Ns _ hr
  rcases List.mem_cons.mp hx with rfl | hx
  · exact Ns _ hq
  exact lite_back N hG F' Ns N0 hs x hx
theorem news_two {h₀ h : Heap} {L : Addr} {news : List (Addr × Obj)} {p q : Addr × Obj} (N : News h₀ L h news) (hp : p ∈ news) (hq : q ∈ news) : News h₀ L h [p, q] := fun x hx => by
  rcases List.mem_cons.mp hx with rfl | hx
  · exact N _ hp
  · rw [List.mem_singleton.mp hx]; exact N _ hq
theorem wp_toks {α : Type} {M : Model} {A : Around} {t : Sem α} {Q : α → Shared → Prop} {E : Value → Shared → Prop} {h : Heap} {g d o} {tk : Nat} (H : ∀ tk, wpAny M A t Q E ⟨h, g, d, tk, o⟩) : wpAny M A t Q E ⟨h, g, d, tk, o⟩ := H tk
set_option maxHeartbeats 800000 in
theorem bent_sym {w : World} {dp un : Nat} {gd : Option (List Code)} {cn : Str} {cs : Scope} {A L : Addr} {ccd : Value} {outer : List Env} {A₀ : Around} {base h₀ : Heap} {m : Str → Option Value} {s : Shared} {Q E : Value → Shared → Prop} {news : List (Addr × Obj)} {mean : ExcName → Option Value} {mg mb : Str → Option Value} {rl r : Addr} {vs : List Value} {d i a e q num ka : Int} {t1 t2 t3 t4 tn ta tp : Tok} {c k : Nat}
    (B : Below A₀ base outer h₀) (F : Fr h₀ L s.heap m) (X : (hd.heap_39 w.params).In h₀) (N0 : News h₀ L s.heap news) (T : Top hd.view_39 (looseW hd.view_39 []) mean mg mb h₀) (hk : cs.kind = .function) (hdp : dp + 12 < recursionLimit) (hun : un + 40 < cLine) (hl : (rl, listOf vs.toArray c) ∈ news) (hr : (r, tupObj [Value.int i t1, .int a t2, .int e t3, .int q t4]) ∈ news)
    (h5 : vs.length ≤ 5) (h0 : 0 ≤ d) (hd1 : d.toNat < vs.length) (hv : vs[d.toNat]? = some (.ref r)) (hk4 : (ka = 0 ∧ k = 0) ∨ (ka = 1 ∧ k = 1) ∨ (ka = 2 ∧ k = 2) ∨ (ka = 3 ∧ k = 3))
    (hret : ∀ lb rw c' h' tk', Fr h₀ L h' m → News h₀ L h' ((lb, listOf (vs.take d.toNat ++ [Value.ref rw] ++ vs.drop (d + 1).toNat).toArray c') :: (rw, tupObj ([Value.int i t1, .int a t2, .int e t3, .int q t4].set k (.int num tn))) :: news) → Q (.ref lb) { s with heap := h', toks := tk' }) :
    wpAny (model PySem.Challenge.rw_xm0811_01.row.prog w) (ktrTop dp un gd cn cs L A ccd [] outer) (call (.ref 175) [.ref rl, .int d tp, .int ka ta, .int num tn]) Q E s := by
  revert X
  k_fill
  intro X
  have N : News h₀ L s.heap [(rl, listOf vs.toArray c), (r, tupObj [Value.int i t1, .int a t2, .int e t3, .int q t4])] := news_two N0 hl hr
  refine wpAny_call ?_
  k_dflt (refine' code_defG ?k1 ?k2 ?k3 ?k4 ?k5 ?kA ?kF ?kK ?k6 ?k7 ?k8 ?k9 ?kB ?_ ?c2 ?c3 ?c4 ?c5; (case kA => exact rfl); (case kF => exact rfl); (case kK => assumption); (case k1 => exact B); (case k2 => exact F); (case k3 => exact X); (case k4 => exact N); (case k5 => exact T); (case k6 => k_is); (case k7 => k_is); (case k8 => ktr_room); (case k9 => exact BindsTo.of_eq rfl); (case c5 => decide); (case kB => exact locs rfl); (case c2 => exact rfl); (case c3 => exact rfl); (case c4 => exact rfl); k_whole; intro g' L' h' FG' F' N' B' X' T' hG; (try dsimp only); (try k_lift B'); (try k_fold))
  have hret' : ∀ lb rw c' h' tk' L'' m' small', Fr h₀ L h' m → Fr g' L'' h' m' → News h₀ L h' small' → (∀ x ∈ [(rl, listOf vs.toArray c), (r, tupObj [Value.int i t1, .int a t2, .int e t3, .int q t4])], x ∈ small') → (lb, listOf (vs.take d.toNat ++ [Value.ref rw] ++ vs.drop (d + 1).toNat).toArray c') ∈ small' → (rw, tupObj ([Value.int i t1, .int a t2, .int e t3, .int q t4].set k (.int num tn))) ∈ small' → Q (.ref lb) { s with heap := h', toks := tk' } := fun lb rw c' h' tk' L'' m' small' F' FF Ns hs h1 h2 => hret lb rw c' h' tk' F' (lite_two N0 hG FF Ns N hs h1 h2)
  clear hret N0 hl hr
  refine wp_toks ?_
  intro tk0
  obtain ⟨rfl, rfl⟩ | ⟨rfl, rfl⟩ | ⟨rfl, rfl⟩ | ⟨rfl, rfl⟩ := hk4
  all_goals (repeat' (first | (k_unfold; (try dsimp only)) | (k_end; wrow_close) | (with_reducible (first | ((with_reducible show wpAny _ _ (subscriptTail _ _ _ _) _ _ _); first | (k_here; (with_reducible show wpAny _ _ (subscriptTail _ _ (Value.ref _) (Value.int _ _)) _ _ _); k_dflt (refine' item_at ?qhk1 ?qhk2 ?qhk3 ?qhk4 ?qhk5 ?_ ?qhk6; (case qhk1 => k_asm); (case qhk2 => k_mem); (case qhk3 => assumption); (case qhk4 => omega); (case qhk5 => assumption); (case qhk6 => with_unfolding_all rfl); k_whole)) | (k_here; (fail_if_success (with_reducible show wpAny _ _ (subscriptTail (PySem.Expr.Name _ _) _ _ _) _ _ _)); (with_reducible show wpAny _ _ (subscriptTail _ (PySem.Expr.Slice _ _ none _) (Value.ref _) (Value.ref _)) _ _ _); k_dflt (refine kba_turn (value' := PySem.Expr.Name (PySem.Str.ofString "_") ⟨0, 0, 0, 0⟩) (fun _ => rfl) ?_)) | (k_here; (with_reducible show wpAny _ _ (subscriptTail _ (PySem.Expr.Slice _ _ none _) (Value.ref _) (Value.ref _)) _ _ _); k_dflt (refine' tup_from ?qhF ?qhN ?qht ?qhh0 ?qhhb ?qhe ?_ ?qhs ?qhg ?qhz; (case qhF => k_asm); (case qhN => k_asm); (case qht => k_mem); (case qhh0 => decide); (case qhhb => exact Nat.le_of_ble_eq_true rfl); (case qhe => kl_lit); (case qhs => with_unfolding_all rfl); (case qhg => (intro r; with_unfolding_all rfl)); (case qhz => kmk_size)); intro D' h' F' N' l1; (try k_lt l1); (try k_sweep)) | (k_here; (with_reducible show wpAny _ _ (subscriptTail _ (PySem.Expr.Slice _ _ none _) (Value.ref _) (Value.ref _)) _ _ _); k_dflt (refine' tup_upto ?qhF ?qhN ?qht ?qhh0 ?qhhb ?qhe ?_ ?qhs ?qhg ?qhz; (case qhF => k_asm); (case qhN => k_asm); (case qht => k_mem); (case qhh0 => decide); (case qhhb => exact Nat.le_of_ble_eq_true rfl); (case qhe => kl_lit); (case qhs => with_unfolding_all rfl); (case qhg => (intro r; with_unfolding_all rfl)); (case qhz => kmk_size)); intro D' h' F' N' l1; (try k_lt l1); (try k_sweep)) | (k_here; (with_reducible show wpAny _ _ (subscriptTail _ (PySem.Expr.Slice _ none none _) (Value.ref _) (Value.ref _)) _ _ _); k_dflt (refine' list_from ?qhF ?qhN ?qht ?qhh0 ?qhhb ?qhz ?_ ?qhs ?qhg; (case qhF => k_asm); (case qhN => k_asm); (case qht => k_mem); (case qhh0 => omega); (case qhhb => omega); (case qhz => omega); (case qhs => with_unfolding_all rfl); (case qhg => (intro r; with_unfolding_all rfl))); intro D' h' F' N' l1; (try k_lt l1); (try k_sweep)) | (k_here; (with_reducible show wpAny _ _ (subscriptTail _ (PySem.Expr.Slice none _ none _) (Value.ref _) (Value.ref _)) _ _ _); k_dflt (refine' list_upto ?qhF ?qhN ?qht ?qhh0 ?qhhb ?qhz ?_ ?qhs ?qhg; (case qhF => k_asm); (case qhN => k_asm); (case qht => k_mem); (case qhh0 => omega); (case qhhb => omega); (case qhz => omega); (case qhs => with_unfolding_all rfl); (case qhg => (intro r; with_unfolding_all rfl))); intro D' h' F' N' l1; (try k_lt l1); (try k_sweep))) | ((with_reducible show wpAny _ _ (binaryOp Operator.Add (Value.ref _) (Value.ref _)) _ _ _); first | (k_here; (with_reducible show wpAny _ _ (binaryOp _ (Value.ref _) (Value.ref _)) _ _ _); k_dflt (refine' tup_add1 ?qhF ?qhN ?qha ?qhb ?qhc ?qhd ?qhz ?_; (case qhF => k_asm); (case qhN => k_asm); (case qha => k_mem); (case qhb => k_mem); (case qhc => exact rfl); (case qhd => exact rfl); (case qhz => exact Nat.le_of_ble_eq_true rfl); k_whole)) | (k_here; (with_reducible show wpAny _ _ (binaryOp _ (Value.ref _) (Value.ref _)) _ _ _); k_dflt (refine' tup_add0 ?qhF ?qhN ?qha ?qhb ?qhc ?qhz ?_; (case qhF => k_asm); (case qhN => k_asm); (case qha => k_mem); (case qhb => k_mem); (case qhc => exact rfl); (case qhz => exact Nat.le_of_ble_eq_true rfl); k_whole)) | (k_here; (with_reducible show wpAny _ _ (binaryOp _ (Value.ref _) (Value.ref _)) _ _ _); k_dflt (refine' tup_add ?qhF ?qhN ?qha ?qhb ?qhc ?qhd ?qhz ?qhe ?_; (case qhF => k_asm); (case qhN => k_asm); (case qha => k_mem); (case qhb => k_mem); (case qhc => exact rfl); (case qhd => exact rfl); (case qhz => exact Nat.le_of_ble_eq_true rfl); (case qhe => kl_lit)); intro D' h' F' N' l1; (try k_lt l1); (try k_sweep)) | (k_here; (with_reducible show wpAny _ _ (binaryOp _ (Value.ref _) (Value.ref _)) _ _ _); k_dflt (refine' list_add ?qhF ?qhN ?qha ?qhb ?qhz ?_; (case qhF => k_asm); (case qhN => k_asm); (case qha => k_mem); (case qhb => k_mem); (case qhz => ((simp only [List.length_append, List.length_take, List.length_drop, List.length_cons, List.length_nil]); omega))); intro D' h' F' N' l1; (try k_lt l1); (try k_sweep))))) | ((first | with_reducible show wpAny _ _ (eval (PySem.Expr.Call _ _ _ _) _) _ _ _ | with_reducible show wpAny _ _ (eval (PySem.Expr.List _ _) _) _ _ _ | with_reducible show wpAny _ _ (eval (PySem.Expr.Tuple _ _ _) _) _ _ _ | with_reducible show wpAny _ _ (eval (PySem.Expr.Subscript _ _ _) _) _ _ _ | with_reducible show wpAny _ _ (eval (PySem.Expr.BinOp _ _ _ _) _) _ _ _); refine qfold ?_; intro q9; walk1) | walk1 | (dsimp only; walk1) | (leave1; walk_say "STEP leave1"; try dsimp only) | fail "no step"))
  all_goals (
    refine' hret' _ _ _ _ _ _ _ _ ?f ?g ?n ?m ?u ?v
    (case n => assumption)
    (case f => assumption)
    (case g => assumption)
    (case m => (intro x hx; rcases List.mem_cons.mp hx with rfl | hx; k_mem; rw [List.mem_singleton.mp hx]; k_mem))
    (case u => k_mem)
    (case v => k_mem))
end Mine
end
section
open PySem PySem.W PyProof.Rows PySem.Calls
namespace Mine
set_option maxRecDepth 100000
theorem RowAt.mono {news news' : List (Addr × Obj)} {v : Value} {c : Row} (h : RowAt news v c) (hs : ∀ p ∈ news, p ∈ news') : RowAt news' v c := by
  obtain ⟨r, t1, t2, t3, t4, e, hm⟩ := h
  exact ⟨r, t1, t2, t3, t4, e, hs _ hm⟩
theorem RowsAt.mono {news news' : List (Addr × Obj)} {vs : List Value} {rows : List Row} (h : RowsAt news vs rows) (hs : ∀ p ∈ news, p ∈ news') : RowsAt news' vs rows :=
  ⟨h.1, fun i c hc => by
    obtain ⟨v, hv, hr⟩ := h.2 i c hc
    exact ⟨v, hv, hr.mono hs⟩⟩
theorem RowsAt.app {news : List (Addr × Obj)} {vs ws : List Value} {rows more : List Row} (h : RowsAt news vs rows) (k : RowsAt news ws more) : RowsAt news (vs ++ ws) (rows ++ more) := by
  refine ⟨by rw [List.length_append, List.length_append, h.1, k.1], fun i c hc => ?_⟩
  rw [List.getElem?_append] at hc ⊢
  rw [h.1]
  by_cases q : i < rows.length
  · rw [if_pos q] at hc ⊢
    exact h.2 i c hc
  · rw [if_neg q] at hc ⊢
    exact k.2 _ c hc
theorem RowsAt.take {news : List (Addr × Obj)} {vs : List Value} {rows : List Row} (h : RowsAt news vs rows) (n : Nat) : RowsAt news (vs.take n) (rows.take n) := by
  refine ⟨by rw [List.length_take, List.length_take, h.1], fun i c hc => ?_⟩
  rw [List.getElem?_take] at hc ⊢
  by_cases q : i < n
  · rw [if_pos q] at hc ⊢
    exact h.2 i c hc
  · rw [if_neg q] at hc
    exact absurd hc (by simp)
theorem RowsAt.drop {news : List (Addr × Obj)} {vs : List Value} {rows : List Row} (h : RowsAt news vs rows) (n : Nat) : RowsAt news (vs.drop n) (rows.drop n) := by
  refine ⟨by rw [List.length_drop, List.length_drop, h.1], fun i c hc => ?_⟩
  rw [List.getElem?_drop] at hc ⊢
  exact h.2 _ c hc
theorem RowsAt.one {news : List (Addr × Obj)} {v : Value} {c : Row} (h : RowAt news v c) : RowsAt news [v] [c] := by
  refine ⟨rfl, fun i c' hc => ?_⟩
  cases i with
  | zero =>
    rw [List.getElem?_cons_zero] at hc
    cases hc
    exact ⟨v, rfl, h⟩
  | succ j => simp at hc
def BentAs (k num : Int) (msg : Str) : Prop :=
  (k = 0 ∧ num ∈ [-1, 256] ∧ msg = PySem.Str.ofString "a component's name is a number of one octet") ∨ (k = 1 ∧ num ∈ [0, 5, -1] ∧ msg = PySem.Str.ofString "a sampling factor is from 1 to 4") ∨ (k = 2 ∧ num ∈ [0, 5, -1] ∧ msg = PySem.Str.ofString "a sampling factor is from 1 to 4") ∨ (k = 3 ∧ num ∈ [-1, 4] ∧ msg = PySem.Str.ofString "a slot is from 0 to 3")
theorem bent_0 {num : Int} (h : num ∈ [-1, 256]) : BentAs 0 num (PySem.Str.ofString "a component's name is a number of one octet") := .inl ⟨rfl, h, rfl⟩
theorem bent_1 {num : Int} (h : num ∈ [0, 5, -1]) : BentAs 1 num (PySem.Str.ofString "a sampling factor is from 1 to 4") := .inr (.inl ⟨rfl, h, rfl⟩)
theorem bent_2 {num : Int} (h : num ∈ [0, 5, -1]) : BentAs 2 num (PySem.Str.ofString "a sampling factor is from 1 to 4") := .inr (.inr (.inl ⟨rfl, h, rfl⟩))
theorem bent_3 {num : Int} (h : num ∈ [-1, 4]) : BentAs 3 num (PySem.Str.ofString "a slot is from 0 to 3") := .inr (.inr (.inr ⟨rfl, h, rfl⟩))
theorem bent_rows {rows : List Row} {c c' : Row} {n : Nat} {msg : Str} (hg : GoodRows rows) (hc : rows[n]? = some c) (hm : compMsg c' = some msg) : (1 ≤ (rows.take n ++ [c'] ++ rows.drop (n + 1)).length ∧ (rows.take n ++ [c'] ++ rows.drop (n + 1)).length ≤ 5) ∧ (rows.take n ++ [c'] ++ rows.drop (n + 1)).findSome? compMsg = some msg := by
  have hlt : n < rows.length := (List.getElem?_eq_some_iff.mp hc).1
  have h5 := hg.1.2
  refine ⟨?_, ?_⟩
  · simp only [List.length_append, List.length_take, List.length_drop, List.length_cons, List.length_nil]
    omega
  · rw [List.append_assoc]
    exact bad_at (rows := rows) (c := c') (fun x hx => hg.2.1 x (List.mem_of_mem_take hx)) hm
theorem bent_call {w : World} {dp un : Nat} {gd : Option (List Code)} {cn : Str} {cs : Scope} {A L : Addr} {ccd : Value} {outer : List Env} {A₀ : Around} {base h₀ : Heap} {m : Str → Option Value} {s : Shared} {Q E : Value → Shared → Prop} {news : List (Addr × Obj)} {mean : ExcName → Option Value} {mg mb : Str → Option Value} {rl : Addr} {vs : List Value} {rows : List Row} {d num ka : Int} {tn ta tp : Tok} {c : Nat} {msg : Str}
    (B : Below A₀ base outer h₀) (F : Fr h₀ L s.heap m) (X : (hd.heap_39 w.params).In h₀) (N0 : News h₀ L s.heap news) (T : Top hd.view_39 (looseW hd.view_39 []) mean mg mb h₀) (hk : cs.kind = .function) (hdp : dp + 12 < recursionLimit) (hun : un + 40 < cLine) (hl : (rl, listOf vs.toArray c) ∈ news) (hr : RowsAt news vs rows) (hg : GoodRows rows)
    (h0 : 0 ≤ d) (hd1 : d < (rows.length : Int)) (hb : BentAs ka num msg)
    (hret : ∀ lb rw vs' c' rows' o h' tk', RowsAt ((lb, listOf vs'.toArray c') :: (rw, o) :: news) vs' rows' → (1 ≤ rows'.length ∧ rows'.length ≤ 5) → rows'.findSome? compMsg = some msg → Fr h₀ L h' m → News h₀ L h' ((lb, listOf vs'.toArray c') :: (rw, o) :: news) → Q (.ref lb) { s with heap := h', toks := tk' }) :
    wpAny (model PySem.Challenge.rw_xm0811_01.row.prog w) (ktrTop dp un gd cn cs L A ccd [] outer) (call (.ref 175) [.ref rl, .int d tp, .int ka ta, .int num tn]) Q E s := by
  have hlt : d.toNat < rows.length := by omega
  have hc := List.getElem?_eq_getElem hlt
  obtain ⟨v, hv, r, t1, t2, t3, t4, rfl, hm⟩ := hr.2 _ _ hc
  have hgc : GoodRow rows[d.toNat] := hg.2.1 _ (List.getElem_mem hlt)
  have e1 : (d + 1).toNat = d.toNat + 1 := by omega
  have h5 := hg.1.2
  have hlen := hr.1
  have fin : ∀ (lb rw : Addr) (c' : Nat) (h' : Heap) (tk' : Nat) (c2 : Row) (o : Obj), (∃ u1 u2 u3 u4, o = rowObj c2 u1 u2 u3 u4) → compMsg c2 = some msg → Fr h₀ L h' m → News h₀ L h' ((lb, listOf (vs.take d.toNat ++ [Value.ref rw] ++ vs.drop (d + 1).toNat).toArray c') :: (rw, o) :: news) → Q (.ref lb) { s with heap := h', toks := tk' } := by
    intro lb rw c' h' tk' c2 o ho hm2 F' N'
    obtain ⟨u1, u2, u3, u4, rfl⟩ := ho
    obtain ⟨q1, q2⟩ := bent_rows hg hc hm2
    refine hret lb rw _ c' _ _ h' tk' ?_ q1 q2 F' N'
    rw [e1]
    have up : ∀ p ∈ news, p ∈ (lb, listOf (vs.take d.toNat ++ [Value.ref rw] ++ vs.drop (d.toNat + 1)).toArray c') :: (rw, rowObj c2 u1 u2 u3 u4) :: news := fun p hp => .tail _ (.tail _ hp)
    have hr' := hr.mono up
    exact ((hr'.take _).app (RowsAt.one ⟨rw, u1, u2, u3, u4, rfl, .tail _ (.head _)⟩)).app (hr'.drop _)
  rcases hb with ⟨rfl, hn, rfl⟩ | ⟨rfl, hn, rfl⟩ | ⟨rfl, hn, rfl⟩ | ⟨rfl, hn, rfl⟩
  · exact bent_sym (k := 0) B F X N0 T hk hdp hun hl hm (by omega) h0 (by omega) hv (.inl ⟨rfl, rfl⟩) fun lb rw c' h' tk' F' N' => fin lb rw c' h' tk' (num, rows[d.toNat].2.1, rows[d.toNat].2.2.1, rows[d.toNat].2.2.2) _ ⟨tn, t2, t3, t4, rfl⟩ (bad_0 hn) F' N'
  · exact bent_sym (k := 1) B F X N0 T hk hdp hun hl hm (by omega) h0 (by omega) hv (.inr (.inl ⟨rfl, rfl⟩)) fun lb rw c' h' tk' F' N' => fin lb rw c' h' tk' (rows[d.toNat].1, num, rows[d.toNat].2.2.1, rows[d.toNat].2.2.2) _ ⟨t1, tn, t3, t4, rfl⟩ (bad_1 hgc hn) F' N'
  · exact bent_sym (k := 2) B F X N0 T hk hdp hun hl hm (by omega) h0 (by omega) hv (.inr (.inr (.inl ⟨rfl, rfl⟩))) fun lb rw c' h' tk' F' N' => fin lb rw c' h' tk' (rows[d.toNat].1, rows[d.toNat].2.1, num, rows[d.toNat].2.2.2) _ ⟨t1, t2, tn, t4, rfl⟩ (bad_2 hgc hn) F' N'
  · exact bent_sym (k := 3) B F X N0 T hk hdp hun hl hm (by omega) h0 (by omega) hv (.inr (.inr (.inr ⟨rfl, rfl⟩))) fun lb rw c' h' tk' F' N' => fin lb rw c' h' tk' (rows[d.toNat].1, rows[d.toNat].2.1, rows[d.toNat].2.2.1, num) _ ⟨t1, t2, t3, tn, rfl⟩ (bad_3 hgc hn) F' N'
end Mine
end
section
open PySem PySem.W PyProof.Rows PySem.Calls
namespace Mine
set_option maxRecDepth 100000
theorem news_join {h₀ h : Heap} {L : Addr} {p : Addr × Obj} {news : List (Addr × Obj)} (N1 : News h₀ L h [p]) (N2 : News h₀ L h news) : News h₀ L h (p :: news) := fun q hq => by
  rcases List.mem_cons.mp hq with rfl | hq
  · exact N1 _ (.head _)
  · exact N2 _ hq
theorem rowsAt_0 {news : List (Addr × Obj)} : RowsAt news [] [] := ⟨rfl, fun i c h => by simp at h⟩
theorem rowsAt_cons {news : List (Addr × Obj)} {r : Addr} {i a d q : Int} {t1 t2 t3 t4 : Tok} {vs : List Value} {rows : List Row} (h : (r, tupObj [.int i t1, .int a t2, .int d t3, .int q t4]) ∈ news) (hr : RowsAt news vs rows) : RowsAt news (Value.ref r :: vs) ((i, a, d, q) :: rows) := by
  refine ⟨by rw [List.length_cons, List.length_cons, hr.1], fun j c hj => ?_⟩
  cases j with
  | zero =>
    rw [List.getElem?_cons_zero] at hj
    cases hj
    exact ⟨_, rfl, r, t1, t2, t3, t4, rfl, h⟩
  | succ j =>
    rw [List.getElem?_cons_succ] at hj
    obtain ⟨v, hv, hq⟩ := hr.2 j c hj
    exact ⟨v, by rw [List.getElem?_cons_succ]; exact hv, hq⟩
theorem lt_of_all {D a : Addr} {o : Obj} {news : List (Addr × Obj)} (h : ∀ p ∈ news, p.1 < D) (m : (a, o) ∈ news) : a < D := h _ m
theorem news_tail2 {h₀ h : Heap} {L : Addr} {p q : Addr × Obj} {news : List (Addr × Obj)} (N : News h₀ L h (p :: q :: news)) : News h₀ L h news := fun r hr => N r (.tail _ (.tail _ hr))
theorem news_9 {h₀ h : Heap} {L : Addr} {p q0 q1 q2 q3 q4 q5 q6 q7 : Addr × Obj} {news : List (Addr × Obj)} (N : News h₀ L h (p :: q0 :: q1 :: q2 :: q3 :: q4 :: q5 :: q6 :: q7 :: news)) : News h₀ L h (q0 :: q1 :: q2 :: q3 :: q4 :: q5 :: q6 :: q7 :: news) := fun r hr => N r (.tail _ hr)
/-- the rows built so far: names that count on from the first -/
def RowsG (f : Int) (rows : List Row) : Prop := ∀ (j : Nat) (c : Row), rows[j]? = some c → c.1 = f + (j : Int) ∧ GoodRow c
theorem rowsG_nil {f : Int} : RowsG f [] := fun j c h => by simp at h
theorem rowsG_snoc {f : Int} {rows : List Row} {c : Row} (h : RowsG f rows) (e : c.1 = f + (rows.length : Int)) (g : GoodRow c) : RowsG f (rows ++ [c]) := fun j c' hj => by
  rw [List.getElem?_append] at hj
  by_cases q : j < rows.length
  · rw [if_pos q] at hj
    exact h j c' hj
  · rw [if_neg q] at hj
    have hj0 : j - rows.length = 0 := by
      by_cases z : j - rows.length = 0
      · exact z
      · rw [List.getElem?_eq_none (by simp only [List.length_cons, List.length_nil]; omega)] at hj
        cases hj
    rw [hj0, List.getElem?_cons_zero] at hj
    cases hj
    have : j = rows.length := by omega
    exact ⟨by rw [this]; exact e, g⟩
theorem rowsG_good {f : Int} {rows : List Row} (h : RowsG f rows) (h1 : 1 ≤ rows.length) (h2 : rows.length ≤ 4) : GoodRows rows := by
  refine ⟨⟨h1, by omega⟩, fun c hc => ?_, ?_⟩
  · obtain ⟨j, hj⟩ := List.mem_iff_getElem?.mp hc
    exact (h j c hj).2
  · refine List.pairwise_iff_getElem.mpr fun i j hi hj hij e => ?_
    rw [List.length_map] at hi hj
    rw [List.getElem_map, List.getElem_map] at e
    have a := (h i _ (List.getElem?_eq_getElem hi)).1
    have b := (h j _ (List.getElem?_eq_getElem hj)).1
    omega
theorem pad4 (fl : Addr × Obj) : ∀ own : List (Addr × Obj), own.length ≤ 4 → ∃ a0 o0 a1 o1 a2 o2 a3 o3, (∀ p ∈ own, p ∈ [(a0, o0), (a1, o1), (a2, o2), (a3, o3)]) ∧ ∀ p ∈ [(a0, o0), (a1, o1), (a2, o2), (a3, o3)], p = fl ∨ p ∈ own
  | [], _ => ⟨fl.1, fl.2, fl.1, fl.2, fl.1, fl.2, fl.1, fl.2, by simp, by simp⟩
  | [p], _ => ⟨p.1, p.2, fl.1, fl.2, fl.1, fl.2, fl.1, fl.2, by simp, by simp⟩
  | [p, q], _ => ⟨p.1, p.2, q.1, q.2, fl.1, fl.2, fl.1, fl.2, by simp, by simp⟩
  | [p, q, r], _ => ⟨p.1, p.2, q.1, q.2, r.1, r.2, fl.1, fl.2, by simp, by simp⟩
  | [p, q, r, t], _ => ⟨p.1, p.2, q.1, q.2, r.1, r.2, t.1, t.2, by simp, by simp⟩
  | _ :: _ :: _ :: _ :: _ :: _, h => absurd h (by simp)
theorem sub4 {p0 p1 p2 p3 : Addr × Obj} {l : List (Addr × Obj)} (h0 : p0 ∈ l) (h1 : p1 ∈ l) (h2 : p2 ∈ l) (h3 : p3 ∈ l) : ∀ p ∈ [p0, p1, p2, p3], p ∈ l := fun p hp => by
  simp only [List.mem_cons, List.not_mem_nil, or_false] at hp
  rcases hp with rfl | rfl | rfl | rfl <;> assumption
section
variable {prog : Program} {w : World} {A : Around} {E : Value → Shared → Prop} {s : Shared} {env : Env} {h₀ : Heap} {xn : Str} {body : List Stmt} {Q : Flow → Shared → Prop}
inductive RowsEnd (h₀ : Heap) (L : Addr) (xn : Str) (m₀ : Str → Option Value) (l src : Addr) (k : Nat) (f : Int) (I : Addr) (vs : List Value) (rows : List Row) (old : List (Addr × Obj)) (s₁ : Shared) : Shared → Prop
  | mk (h' : Heap) (tk : Nat) (m' : Str → Option Value) (all : List (Addr × Obj)) (x y : Int) (tx ty : Tok) (D : Addr) (t1 t2 t3 t4 : Tok) (cr : Row) (c : Nat) (F : Fr h₀ L h' m') (N : News h₀ L h' all) (ho : ∀ p ∈ old, p ∈ all) (hl : (l, listOf (vs ++ [Value.ref D]).toArray c) ∈ all) (hs : (src, srcObj x y tx ty k) ∈ all) (hd : (D, rowObj cr t1 t2 t3 t4) ∈ all)
    (n1 : D ≠ I) (n2 : D ≠ l) (n3 : D ≠ src) (hb : 0 ≤ x ∧ 0 ≤ y ∧ y < 2147483647) (e1 : cr.1 = f + (rows.length : Int)) (hg : GoodRow cr) (hm : ∀ z, z ≠ xn → m' z = m₀ z) : RowsEnd h₀ L xn m₀ l src k f I vs rows old s₁ { s₁ with heap := h', toks := tk }
inductive RowsJ (l src I : Addr) (k : Nat) (f : Int) (szp : Addr × Obj) (xn : Str) (m₀ : Str → Option Value) (i : Nat) (m₁ : Str → Option Value) : List (Addr × Obj) → Prop
  | mk (own : List (Addr × Obj)) (vs : List Value) (rows : List Row) (c : Nat) (x y : Int) (tx ty : Tok) (hR : RowsAt own vs rows) (hG : RowsG f rows) (hri : rows.length = i) (hoi : own.length = i) (hoff : ∀ p ∈ own, p.1 ≠ l ∧ p.1 ≠ src ∧ p.1 ≠ I) (hb : 0 ≤ x ∧ 0 ≤ y ∧ y < 2147483647) (hm : ∀ z, z ≠ xn → m₁ z = m₀ z) :
    RowsJ l src I k f szp xn m₀ i m₁ ((l, listOf vs.toArray c) :: (src, srcObj x y tx ty k) :: szp :: own)
def RowsPost (h₀ : Heap) (L : Addr) (xn : Str) (m₀ : Str → Option Value) (l src : Addr) (k : Nat) (f : Int) (I : Addr) (vs : List Value) (rows : List Row) (old : List (Addr × Obj)) (s₁ : Shared) (Q : Flow → Shared → Prop) (fl : Flow) (s₂ : Shared) : Prop :=
  match fl with
  | .ret v => Q (.ret v) s₂
  | .brk => Q .next s₂
  | _ => RowsEnd h₀ L xn m₀ l src k f I vs rows old s₁ s₂
theorem RowsPost.next {L : Addr} {m₀ m' : Str → Option Value} {l src I D : Addr} {k c : Nat} {f x y : Int} {tx ty t1 t2 t3 t4 : Tok} {i1 i2 i3 i4 : Int} {vs : List Value} {rows : List Row} {old all : List (Addr × Obj)} {s₁ : Shared} {h' : Heap} {tk : Nat}
    (F : Fr h₀ L h' m') (N : News h₀ L h' all) (ho : ∀ p ∈ old, p ∈ all) (hl : (l, listOf (vs ++ [Value.ref D]).toArray c) ∈ all) (hs : (src, srcObj x y tx ty k) ∈ all) (hd : (D, tupObj [.int i1 t1, .int i2 t2, .int i3 t3, .int i4 t4]) ∈ all)
    (n1 : @Ne Nat D I) (n2 : @Ne Nat D l) (n3 : @Ne Nat D src) (hx : 0 ≤ x) (hy : 0 ≤ y) (hy2 : y < 2147483647) (e1 : i1 = f + (rows.length : Int)) (hg : GoodRow (i1, i2, i3, i4)) (hm : ∀ z, z ≠ xn → m' z = m₀ z) :
    RowsPost h₀ L xn m₀ l src k f I vs rows old s₁ Q .next { s₁ with heap := h', toks := tk } :=
  RowsEnd.mk h' tk m' all x y tx ty D t1 t2 t3 t4 (i1, i2, i3, i4) c F N ho hl hs hd n1 n2 n3 ⟨hx, hy, hy2⟩ e1 hg hm
theorem iter_rows {L r l src sz : Addr} {b₀ : Int} {t₀ u₀ v₀ : Tok} {n k c0 : Nat} {x0 y0 f hi wi : Int} {tx0 ty0 th tw : Tok} {m₀ : Str → Option Value} {news : List (Addr × Obj)}
    (hL : env.locals = L) (hh : A.handled = none) (hf : f ∈ [(0 : Int), 1, 252]) (hr : IsRange s.heap r 0 b₀ 1 t₀ u₀ v₀) (hsmall : Builtin.Range.small 0 b₀ 1 = true) (hn : Builtin.Range.rangeSize 0 b₀ 1 = (n : Int)) (hn1 : 1 ≤ n) (hn4 : n ≤ 4) (F : Fr h₀ L s.heap m₀) (N : News h₀ L s.heap news)
    (hl : (l, listOf #[] c0) ∈ news) (hs : (src, srcObj x0 y0 tx0 ty0 k) ∈ news) (hz : (sz, tupObj [.int hi th, .int wi tw]) ∈ news) (hls : @Ne Nat l src) (hzl : @Ne Nat sz l) (hzs : @Ne Nat sz src) (hx0 : 0 ≤ x0) (hy0 : 0 ≤ y0) (hy02 : y0 < 2147483647)
    (turn : ∀ (i : Nat) t h tk (I : Addr) o a0 o0 a1 o1 a2 o2 a3 o3 vs rows c x y tx ty, rows.length = i → i ≤ 3 → vs.length ≤ 3 → @LT.lt Nat _ l I → @LT.lt Nat _ src I → @LT.lt Nat _ sz I →
      @Ne Nat a0 l → @Ne Nat a0 src → @Ne Nat a0 I → @Ne Nat a1 l → @Ne Nat a1 src → @Ne Nat a1 I → @Ne Nat a2 l → @Ne Nat a2 src → @Ne Nat a2 I → @Ne Nat a3 l → @Ne Nat a3 src → @Ne Nat a3 I → 0 ≤ x → 0 ≤ y → y < 2147483647 →
      Fr h₀ L h (fun z => if z = xn then some (.int (i : Int) t) else m₀ z) →
      News h₀ L h [(I, o), (l, listOf vs.toArray c), (src, srcObj x y tx ty k), (sz, tupObj [.int hi th, .int wi tw]), (a0, o0), (a1, o1), (a2, o2), (a3, o3)] →
      wpAny (model prog w) A (execs body env) (RowsPost h₀ L xn m₀ l src k f I vs rows [(I, o), (sz, tupObj [.int hi th, .int wi tw]), (a0, o0), (a1, o1), (a2, o2), (a3, o3)] { s with heap := h, toks := tk } Q) E { s with heap := h, toks := tk })
    (done : ∀ (u : Option Value) h tk a0 o0 a1 o1 a2 o2 a3 o3 (r0 : Addr) i1 t1 i2 t2 i3 t3 i4 t4 vs rows c x y tx ty, GoodRows rows → (Value.ref r0 :: vs).length = rows.length → vs.length + 1 = rows.length → 1 ≤ rows.length → rows.length ≤ 4 → RowsAt [(a0, o0), (a1, o1), (a2, o2), (a3, o3)] (Value.ref r0 :: vs) rows →
      @Ne Nat l src → @Ne Nat sz src → @Ne Nat a0 src → @Ne Nat a1 src → @Ne Nat a2 src → @Ne Nat a3 src → @Ne Nat r0 src → 0 ≤ x → 0 ≤ y → y < 2147483647 →
      Fr h₀ L h (fun z => if z = xn then u else m₀ z) →
      News h₀ L h [(l, listOf (Value.ref r0 :: vs).toArray c), (src, srcObj x y tx ty k), (sz, tupObj [.int hi th, .int wi tw]), (r0, tupObj [.int i1 t1, .int i2 t2, .int i3 t3, .int i4 t4]), (a0, o0), (a1, o1), (a2, o2), (a3, o3)] →
      Q .next { s with heap := h, toks := tk }) :
    wpAny (model prog w) A (pyIter (.ref r)) (fun it s₂ => LoopAtV prog w A h₀ env xn body Q E it s₂) E s := by
  subst hL
  refine wpAny_pyIter_range hr hsmall ?_
  have W : Walks prog w A s.heap.objs.size [s.heap.objs.size] [s.heap.objs.size] n (fun i v => i < n ∧ ∃ t, v = .int (0 + i * 1) t)
      (fun i h => IsRangeIter h s.heap.objs.size (0 + (i : Nat) * 1) ((n : Int) - (i : Nat)) 1) := (Walks.range hh _ 0 1 n).bound
  have hnew := next_is_new F
  have lI : l < s.heap.objs.size := Heap.lt_size (N _ hl).1
  have sI : src < s.heap.objs.size := Heap.lt_size (N _ hs).1
  have zI : sz < s.heap.objs.size := Heap.lt_size (N _ hz).1
  let J : Nat → (Str → Option Value) → List (Addr × Obj) → Prop := RowsJ l src s.heap.objs.size k f (sz, tupObj [.int hi th, .int wi tw]) xn m₀
  refine ⟨_, _, _, n, _, _, m₀, [(l, listOf #[] c0), (src, srcObj x0 y0 tx0 ty0 k), (sz, tupObj [.int hi th, .int wi tw])], J, rfl, W, ?_, ?_, ?_, (by show IsRangeIter _ _ _ _ _; rw [hn]; simpa using Heap.get?_push_size _ rfl), F.push _, ?_, ?_, ?_, ?_⟩
  · intro hm
    exact absurd F.ns.lt ((List.mem_singleton.mp hm) ▸ Nat.lt_irrefl _)
  · intro b hb
    rw [List.mem_singleton.mp hb]
    exact hnew
  · intro p hp hI
    have e := List.mem_singleton.mp hI
    simp only [List.mem_cons, List.not_mem_nil, or_false] at hp
    rcases hp with rfl | rfl | rfl
    · exact Nat.ne_of_lt lI e
    · exact Nat.ne_of_lt sI e
    · exact Nat.ne_of_lt zI e
  · intro p hp
    have hp' : p ∈ news := by
      simp only [List.mem_cons, List.not_mem_nil, or_false] at hp
      rcases hp with rfl | rfl | rfl <;> assumption
    exact ⟨Heap.get?_push_of_some _ (N p hp').1, (N p hp').2⟩
  · exact RowsJ.mk [] [] [] c0 x0 y0 tx0 ty0 rowsAt_0 rowsG_nil rfl rfl (fun p hp => absurd hp List.not_mem_nil) ⟨hx0, hy0, hy02⟩ fun _ _ => rfl
  · rintro i v m₁ news₁ s₁ own ⟨hh', tk', rfl⟩ hin ⟨_, t, rfl⟩ ⟨mine, vs, rows, c, x, y, tx, ty, hR, hG, hri, hoi, hoff, ⟨hx, hy, hy2⟩, hm⟩ hoffI hown hget hall hst F₁ N₁
    have hi4 : i < 4 := Nat.lt_of_lt_of_le hin hn4
    have hst' : hh'.get? s.heap.objs.size = some (itR (0 + ((i + 1 : Nat) : Int)) ((n : Int) - ((i + 1 : Nat) : Int))) := by
      have q : IsRangeIter hh' s.heap.objs.size (0 + ((i + 1 : Nat) : Int) * 1) ((n : Int) - ((i + 1 : Nat) : Int)) 1 := hst
      rw [Int.mul_one] at q
      exact q
    have hmem := hall s.heap.objs.size (List.mem_singleton.mpr rfl) hnew _ hst'
    have e1 : (0 : Int) + (i : Int) * 1 = (i : Int) := by omega
    rw [e1] at F₁
    have em : (fun z => if z = xn then some (Value.int (i : Int) t) else m₁ z) = fun z => if z = xn then some (Value.int (i : Int) t) else m₀ z := by
      funext z
      by_cases h1 : z = xn
      · simp [h1]
      · simp only [if_neg h1]; exact hm z h1
    rw [em] at F₁
    obtain ⟨a0, o0, a1, o1, a2, o2, a3, o3, hp1, hp2⟩ := pad4 (sz, tupObj [.int hi th, .int wi tw]) mine (by omega)
    have off : ∀ p ∈ [(a0, o0), (a1, o1), (a2, o2), (a3, o3)], @Ne Nat p.1 l ∧ @Ne Nat p.1 src ∧ @Ne Nat p.1 s.heap.objs.size := fun p hp => by
      rcases hp2 p hp with rfl | q
      · exact ⟨hzl, hzs, Nat.ne_of_lt zI⟩
      · exact hoff p q
    obtain ⟨f01, f02, f03⟩ := off (a0, o0) (by simp)
    obtain ⟨f11, f12, f13⟩ := off (a1, o1) (by simp)
    obtain ⟨f21, f22, f23⟩ := off (a2, o2) (by simp)
    obtain ⟨f31, f32, f33⟩ := off (a3, o3) (by simp)
    have N₂ : News h₀ env.locals hh' [(s.heap.objs.size, itR (0 + ((i + 1 : Nat) : Int)) ((n : Int) - ((i + 1 : Nat) : Int))), (l, listOf vs.toArray c), (src, srcObj x y tx ty k), (sz, tupObj [.int hi th, .int wi tw]), (a0, o0), (a1, o1), (a2, o2), (a3, o3)] := fun p hp => by
      rcases List.mem_cons.mp hp with rfl | hp
      · exact N₁ _ (List.mem_append_left _ hmem)
      rcases List.mem_cons.mp hp with rfl | hp
      · exact N₁ _ (List.mem_append_right _ (.head _))
      rcases List.mem_cons.mp hp with rfl | hp
      · exact N₁ _ (List.mem_append_right _ (.tail _ (.head _)))
      rcases List.mem_cons.mp hp with rfl | hp
      · exact N₁ _ (List.mem_append_right _ (.tail _ (.tail _ (.head _))))
      rcases hp2 p hp with rfl | q
      · exact N₁ _ (List.mem_append_right _ (.tail _ (.tail _ (.head _))))
      · exact N₁ _ (List.mem_append_right _ (.tail _ (.tail _ (.tail _ q))))
    have hv3 : vs.length ≤ 3 := by rw [hR.1]; omega
    refine wpAny_mono (turn i t hh' tk' _ _ a0 o0 a1 o1 a2 o2 a3 o3 vs rows c x y tx ty hri (Nat.le_of_lt_succ hi4) hv3 lI sI zI f01 f02 f03 f11 f12 f13 f21 f22 f23 f31 f32 f33 hx hy hy2 F₁ N₂) (fun fl s₂ p => ?_) fun _ _ e => e
    have fin : RowsEnd h₀ env.locals xn m₀ l src k f s.heap.objs.size vs rows [(s.heap.objs.size, itR (0 + ((i + 1 : Nat) : Int)) ((n : Int) - ((i + 1 : Nat) : Int))), (sz, tupObj [.int hi th, .int wi tw]), (a0, o0), (a1, o1), (a2, o2), (a3, o3)] { s with heap := hh', toks := tk' } s₂ →
        LoopStepU h₀ env.locals [s.heap.objs.size] own (J (i + 1)) { s with heap := hh', toks := tk' } .next s₂ := by
      rintro ⟨h', tk, m', all, x', y', tx', ty', D, t1, t2, t3, t4, cr, c', F', N', hold, hl', hs', hd', d1, d2, d3, hb', hc1, hc2, hm'⟩
      refine ⟨rfl, h', tk, m', (l, listOf (vs ++ [Value.ref D]).toArray c') :: (src, srcObj x' y' tx' ty' k) :: (sz, tupObj [.int hi th, .int wi tw]) :: (mine ++ [(D, rowObj cr t1 t2 t3 t4)]), rfl, F', fun p hp => ?_, fun p hp hI => ?_, ?_⟩
      · rcases List.mem_append.mp hp with hp | hp
        · have h1 : p.1 = s.heap.objs.size := List.mem_singleton.mp (hown p hp)
          have h2 : hh'.get? p.1 = some p.2 := hget p hp
          have h3 : p = (s.heap.objs.size, itR (0 + ((i + 1 : Nat) : Int)) ((n : Int) - ((i + 1 : Nat) : Int))) := by
            rw [h1, hst'] at h2
            exact Prod.ext h1 (Option.some.inj h2).symm
          rw [h3]; exact N' _ (hold _ (.head _))
        rcases List.mem_cons.mp hp with rfl | hp
        · exact N' _ hl'
        rcases List.mem_cons.mp hp with rfl | hp
        · exact N' _ hs'
        rcases List.mem_cons.mp hp with rfl | hp
        · exact N' _ (hold _ (.tail _ (.head _)))
        rcases List.mem_append.mp hp with hp | hp
        · exact N' _ (hold _ (.tail _ (.tail _ (hp1 p hp))))
        · rw [List.mem_singleton.mp hp]; exact N' _ hd'
      · have e := List.mem_singleton.mp hI
        rcases List.mem_cons.mp hp with rfl | hp
        · exact Nat.ne_of_lt lI e
        rcases List.mem_cons.mp hp with rfl | hp
        · exact Nat.ne_of_lt sI e
        rcases List.mem_cons.mp hp with rfl | hp
        · exact Nat.ne_of_lt zI e
        rcases List.mem_append.mp hp with hp | hp
        · exact (hoff p hp).2.2 e
        · rw [List.mem_singleton.mp hp] at e; exact d1 e
      · refine RowsJ.mk (mine ++ [(D, rowObj cr t1 t2 t3 t4)]) (vs ++ [Value.ref D]) (rows ++ [cr]) c' x' y' tx' ty' ?_ (rowsG_snoc hG hc1 hc2) (by rw [List.length_append, hri]; rfl) (by rw [List.length_append, hoi]; rfl) (fun p hp => ?_) hb' hm'
        · exact (hR.mono fun p hp => List.mem_append_left _ hp).app (RowsAt.one ⟨D, t1, t2, t3, t4, rfl, List.mem_append_right _ (.head _)⟩)
        · rcases List.mem_append.mp hp with hp | hp
          · exact hoff p hp
          · rw [List.mem_singleton.mp hp]; exact ⟨d2, d3, d1⟩
    cases fl with
    | ret v => exact .ret p
    | brk => exact .brk p
    | next => exact .next (fin p)
    | cont => exact .cont (fin p)
  · rintro h' tk m' news' F' N' _ ⟨mine, vs, rows, c, x, y, tx, ty, hR, hG, hri, hoi, hoff, ⟨hx, hy, hy2⟩, hm⟩
    obtain ⟨a0, o0, a1, o1, a2, o2, a3, o3, hp1, hp2⟩ := pad4 (sz, tupObj [.int hi th, .int wi tw]) mine (by omega)
    have hgr := rowsG_good hG (by omega) (by omega)
    have h0 : 0 < rows.length := by omega
    obtain ⟨v, hv, r0, t1, t2, t3, t4, rfl, hm0⟩ := hR.2 0 rows[0] (List.getElem?_eq_getElem h0)
    obtain ⟨vs', rfl⟩ : ∃ vs', vs = Value.ref r0 :: vs' := by
      cases vs with
      | nil => simp at hv
      | cons a b =>
        rw [List.getElem?_cons_zero] at hv
        cases hv
        exact ⟨b, rfl⟩
    have off : ∀ p ∈ [(a0, o0), (a1, o1), (a2, o2), (a3, o3)], @Ne Nat p.1 src := fun p hp => by
      rcases hp2 p hp with rfl | q
      · exact hzs
      · exact (hoff p q).2.1
    have em : (fun z => if z = xn then m' xn else m₀ z) = m' := by
      funext z
      by_cases h1 : z = xn
      · simp [h1]
      · simp only [if_neg h1]; exact (hm z h1).symm
    refine done (m' xn) h' tk a0 o0 a1 o1 a2 o2 a3 o3 r0 rows[0].1 t1 rows[0].2.1 t2 rows[0].2.2.1 t3 rows[0].2.2.2 t4 vs' rows c x y tx ty hgr hR.1 hR.1 (by omega) (by omega) (hR.mono hp1) hls hzs (off (a0, o0) (by simp)) (off (a1, o1) (by simp)) (off (a2, o2) (by simp)) (off (a3, o3) (by simp)) (hoff _ hm0).2.1 hx hy hy2 (by rw [em]; exact F') fun p hp => ?_
    rcases List.mem_cons.mp hp with rfl | hp
    · exact N' _ (.head _)
    rcases List.mem_cons.mp hp with rfl | hp
    · exact N' _ (.tail _ (.head _))
    rcases List.mem_cons.mp hp with rfl | hp
    · exact N' _ (.tail _ (.tail _ (.head _)))
    rcases List.mem_cons.mp hp with rfl | hp
    · exact N' _ (.tail _ (.tail _ (.tail _ hm0)))
    rcases hp2 p hp with rfl | q
    · exact N' _ (.tail _ (.tail _ (.head _)))
    · exact N' _ (.tail _ (.tail _ (.tail _ q)))
end
theorem goodRow_of {f i a d q : Int} (hf : f ∈ [(0 : Int), 1, 252]) (i0 : 0 ≤ i) (i1 : i ≤ 3) (a0 : 0 ≤ a) (a1 : a < 4) (d0 : 0 ≤ d) (d1 : d < 4) (q0 : 0 ≤ q) (q1 : q < 4) : GoodRow (f + i, 1 + a, 1 + d, q) := by
  have h1 := first_of hf
  refine ⟨?_, ?_, ?_, ?_, ?_, ?_, ?_, ?_⟩ <;> dsimp only <;> omega
theorem sub6 {p0 p1 p2 p3 p4 p5 : Addr × Obj} {l : List (Addr × Obj)} (h0 : p0 ∈ l) (h1 : p1 ∈ l) (h2 : p2 ∈ l) (h3 : p3 ∈ l) (h4 : p4 ∈ l) (h5 : p5 ∈ l) : ∀ p ∈ [p0, p1, p2, p3, p4, p5], p ∈ l := fun p hp => by
  simp only [List.mem_cons, List.not_mem_nil, or_false] at hp
  rcases hp with rfl | rfl | rfl | rfl | rfl | rfl <;> assumption
section
variable {prog : Program} {w : World} {A : Around} {E : Value → Shared → Prop} {s : Shared} {h₀ : Heap} {L : Addr} {m : Str → Option Value} {news news' : List (Addr × Obj)}
theorem append_rows {D : Addr} {vs : List Value} {c : Nat} {x : Value} {Q : Value → Shared → Prop} (F : Fr h₀ L s.heap m) (N : News h₀ L s.heap news) (U : Upd D (listOf vs.toArray c) (listOf (vs ++ [x]).toArray (c + 1)) news news') (hz : vs.length ≤ 1000)
    (h : ∀ h', Fr h₀ L h' m → News h₀ L h' news' → Q .none { s with heap := h' }) : wpAny (model prog w) A (call (.builtin "list.append") [.ref D, x]) Q E s := by
  refine append_K (its := vs.toArray) (n := c) F N ?_ h (by rw [List.size_toArray, sizeLine_eq]; omega)
  rw [List.push_toArray]
  exact U
theorem list_first {value slice : PySem.Expr} {l : Addr} {v : Value} {vs : List Value} {c : Nat} {u : Tok} {Q : Value → Shared → Prop}
    (F : Fr h₀ L s.heap m) (N : News h₀ L s.heap news) (hl : (l, listOf (v :: vs).toArray c) ∈ news) (hz : vs.length ≤ 900)
    (h : ∀ D h', Fr h₀ L h' m → News h₀ L h' ((D, listOf [v].toArray 0) :: news) → (∀ p ∈ news, p.1 < D) → Q (.ref D) { s with heap := h' })
    (hs : subscripted slice false (.ref l) (.ref s.heap.objs.size) = operate [.ref s.heap.objs.size, .ref l] (getItem (.ref l) (.ref s.heap.objs.size)))
    (hg : ∀ r, letTemporaryGo value (.ref l) r = pure ()) :
    wpAny (model prog w) A (subscriptTail value slice (.ref l) (.ref s.heap.objs.size)) Q E { s with heap := s.heap.push { cls := .type "slice", data := .fields #[.none, .int 1 u, .none] } } :=
  list_upto F N hl (by decide) (by simp) (by rw [List.length_cons]; omega) h hs hg
theorem item_row {value slice : PySem.Expr} {l : Addr} {vs : List Value} {rows : List Row} {own : List (Addr × Obj)} {c : Nat} {d : Int} {u : Tok} {Q : Value → Shared → Prop}
    (N : News h₀ L s.heap news) (hl : (l, listOf vs.toArray c) ∈ news) (hr : RowsAt own vs rows) (h0 : 0 ≤ d) (h1 : d < (rows.length : Int)) (h2 : rows.length ≤ 4) (h : ∀ (rx : Addr) (cx : Row), cx ∈ rows → RowAt own (Value.ref rx) cx → Q (.ref rx) s)
    (hs : subscripted slice false (.ref l) (.int d u) = operate [.ref l, .int d u] (getItem (.ref l) (.int d u))) :
    wpAny (model prog w) A (subscriptTail value slice (.ref l) (.int d u)) Q E s := by
  have hlt : d.toNat < rows.length := by omega
  obtain ⟨v, hv, r, t1, t2, t3, t4, rfl, hm⟩ := hr.2 d.toNat _ (List.getElem?_eq_getElem hlt)
  exact item_at N hl h0 (by omega) hv (h r _ (List.getElem_mem hlt) ⟨r, t1, t2, t3, t4, rfl, hm⟩) hs
theorem rowsAt_dup {own : List (Addr × Obj)} {vs : List Value} {rows : List Row} {rx : Addr} {cx : Row} (hr : RowsAt own vs rows) (hx : RowAt own (Value.ref rx) cx) (hs : ∀ p ∈ own, p ∈ news) : RowsAt news (vs ++ [Value.ref rx]) (rows ++ [cx]) := (hr.mono hs).app (RowsAt.one (hx.mono hs))
end
theorem rep_mul {prog : Program} {w : World} {A : Around} {E : Value → Shared → Prop} {s : Shared} {h₀ : Heap} {L : Addr} {m : Str → Option Value} {news : List (Addr × Obj)} {l : Addr} {v : Value} {c : Nat} {u : Tok} {Q : Value → Shared → Prop}
    (F : Fr h₀ L s.heap m) (N : News h₀ L s.heap news) (hl : (l, listOf [v].toArray c) ∈ news)
    (h : ∀ (big : List Value) D h', big = List.replicate 256 v → Fr h₀ L h' m → News h₀ L h' ((D, listOf big.toArray 0) :: news) → (∀ p ∈ news, p.1 < D) → Q (.ref D) { s with heap := h' }) : wpAny (model prog w) A (binaryOp .Mult (.ref l) (.int 256 u)) Q E s := by
  have e : (List.replicate (256 : Int).toNat [v]).flatten = List.replicate 256 v := by
    rw [show (256 : Int).toNat = 256 from rfl, List.flatten_replicate_singleton]
  generalize eb : List.replicate 256 v = big at e
  exact KMa.mul F N ⟨_, (N _ hl).1, rfl, _, rfl⟩ (by decide) (by decide) (by simp) e fun D h' => h big D h' eb.symm
theorem rowsAt_rep {news : List (Addr × Obj)} {r : Addr} {i a d q : Int} {t1 t2 t3 t4 : Tok} (h : (r, tupObj [.int i t1, .int a t2, .int d t3, .int q t4]) ∈ news) : ∀ n, RowsAt news (List.replicate n (Value.ref r)) (List.replicate n (i, a, d, q))
  | 0 => rowsAt_0
  | n + 1 => rowsAt_cons h (rowsAt_rep h n)
theorem tv_bent' {code prec other h w : Int} {rows : List Row} {msg : Str} (g : GoodCode code prec other) (hh : GoodH h) (hw : GoodW w) (hr : 1 ≤ rows.length ∧ rows.length ≤ 5) (hm : rows.findSome? compMsg = some msg) : toldS code prec h w rows = msg := tv_bent g hh hw ⟨hr.1, by omega⟩ hm
theorem tv_dup' {code prec other h w : Int} {rows all : List Row} {c : Row} (g : GoodCode code prec other) (hh : GoodH h) (hw : GoodW w) (hr : GoodRows rows) (e : all = rows ++ [c]) (hc : c ∈ rows) : toldS code prec h w all = PySem.Str.ofString "a component stands twice" := by
  subst e
  exact tv_dup g hh hw hr hc
theorem told_msg {w : World} {dp un : Nat} {gd : Option (List Code)} {cn : Str} {cs : Scope} {a L : Addr} {ccd : Value} {A₀ : Around} {base h₀ : Heap} {m : Str → Option Value} {s : Shared} {Q E : Value → Shared → Prop} {news : List (Addr × Obj)} {mean : ExcName → Option Value} {mg mb : Str → Option Value} {sz lr : Addr} {vs : List Value} {c : Nat} {code prec hi wi : Int} {rows : List Row} {tc tp th tw : Tok} {msg : Str}
    (B : Below A₀ base [] h₀) (F : Fr h₀ L s.heap m) (X : (hd.heap_39 w.params).In h₀) (N : News h₀ L s.heap news) (T : Top hd.view_39 (looseW hd.view_39 []) mean mg mb h₀) (hk : cs.kind = .function) (hdp : dp + 40 < recursionLimit) (hun : un + 120 < cLine) (XB : (hd.heap_39 w.params).In base) (TB : Top hd.view_39 (looseW hd.view_39 []) mean mg mb base)
    (hsz : (sz, tupObj [.int hi th, .int wi tw]) ∈ news) (hl : (lr, listOf vs.toArray c) ∈ news) (hrows : RowsAt news vs rows) (hn : rows.length ≤ 5 ∨ (255 < rows.length ∧ rows.length < 1000))
    (hm : toldS code prec hi wi rows = msg)
    (hret : ∀ t h' tk', Fr h₀ L h' m → News h₀ L h' news → Q (.str msg t) { s with heap := h', toks := tk' }) :
    wpAny (model PySem.Challenge.rw_xm0811_01.row.prog w) (ktrTop dp un gd cn cs L a ccd [] []) (call (.ref 161) [.int code tc, .int prec tp, .ref sz, .ref lr]) Q E s := by
  subst hm
  exact told_call B F X N T hk hdp hun XB TB hsz hl hrows hn hret
theorem told_many {w : World} {dp un : Nat} {gd : Option (List Code)} {cn : Str} {cs : Scope} {a L : Addr} {ccd : Value} {A₀ : Around} {base h₀ : Heap} {m : Str → Option Value} {s : Shared} {Q E : Value → Shared → Prop} {news : List (Addr × Obj)} {mean : ExcName → Option Value} {mg mb : Str → Option Value} {sz lr : Addr} {c : Nat} {code prec hi wi : Int} {tc tp th tw : Tok} {other : Int} {p : Addr × Obj} {v : Value} {big : List Value} {b r : Addr} {cb : Nat} {i1 i2 i3 i4 : Int} {t1 t2 t3 t4 : Tok}
    (B : Below A₀ base [] h₀) (F : Fr h₀ L s.heap m) (X : (hd.heap_39 w.params).In h₀) (N : News h₀ L s.heap (p :: (b, listOf big.toArray cb) :: news)) (T : Top hd.view_39 (looseW hd.view_39 []) mean mg mb h₀) (hk : cs.kind = .function) (hdp : dp + 40 < recursionLimit) (hun : un + 120 < cLine) (XB : (hd.heap_39 w.params).In base) (TB : Top hd.view_39 (looseW hd.view_39 []) mean mg mb base)
    (hsz : (sz, tupObj [.int hi th, .int wi tw]) ∈ p :: (b, listOf big.toArray cb) :: news) (hbig : big = List.replicate 256 (Value.ref r)) (hv : v ∈ [Value.ref lr, Value.ref b]) (hl : (lr, listOf #[] c) ∈ p :: (b, listOf big.toArray cb) :: news) (hr : (r, tupObj [.int i1 t1, .int i2 t2, .int i3 t3, .int i4 t4]) ∈ p :: (b, listOf big.toArray cb) :: news)
    (g : GoodCode code prec other) (hh : GoodH hi) (hw : GoodW wi)
    (hret : ∀ t h' tk', Fr h₀ L h' m → News h₀ L h' (p :: news) → Q (.str (PySem.Str.ofString "a frame has 1 to 255 components") t) { s with heap := h', toks := tk' }) :
    wpAny (model PySem.Challenge.rw_xm0811_01.row.prog w) (ktrTop dp un gd cn cs L a ccd [] []) (call (.ref 161) [.int code tc, .int prec tp, .ref sz, v]) Q E s := by
  have hret' : ∀ t h' tk', Fr h₀ L h' m → News h₀ L h' (p :: (b, listOf big.toArray cb) :: news) → Q (.str (PySem.Str.ofString "a frame has 1 to 255 components") t) { s with heap := h', toks := tk' } := fun t h' tk' F' N' => hret t h' tk' F' fun q hq => N' q (by
      rcases List.mem_cons.mp hq with rfl | hq
      · exact .head _
      · exact .tail _ (.tail _ hq))
  rcases List.mem_cons.mp hv with rfl | hv
  · exact told_msg (rows := []) (vs := []) B F X N T hk hdp hun XB TB hsz hl rowsAt_0 (.inl (Nat.zero_le _)) (tv_many g hh hw (by simp)) hret'
  · rw [List.mem_singleton.mp hv]
    subst hbig
    have hb : (b, listOf (List.replicate 256 (Value.ref r)).toArray cb) ∈ p :: (b, listOf (List.replicate 256 (Value.ref r)).toArray cb) :: news := .tail _ (.head _)
    exact told_msg (rows := List.replicate 256 (i1, i2, i3, i4)) (vs := List.replicate 256 (Value.ref r)) B F X N T hk hdp hun XB TB hsz hb (rowsAt_rep hr 256) (.inr (by rw [List.length_replicate]; omega)) (tv_many g hh hw (by rw [List.length_replicate]; omega)) hret'
end Mine
end
section
open PySem PySem.W PyProof.Rows PySem.Calls
namespace Mine
set_option maxRecDepth 100000
theorem law_end {cl : Str → Option Addr} {mean : ExcName → Option Value} {args : List WData} {s₁ s' : Shared} {L : Addr} {m : Str → Option Value} {b : Bool} (F : Fr s₁.heap L s'.heap m) (hg : s'.gens = #[]) (hos : s'.os = s₁.os) (hb : b = true) :
    PySem.W.GoodW PySem.Challenge.rw_xm0811_01.row.claim cl mean args s₁ (.ok (.ret (.bool b))) s' := by
  subst hb
  refine goodW_bool F hg (raisesW_false ?_) ?_ hos
  · wrow_none_raised
  · exact postW_of (by wrow_shape) (by wtm_val) (by w_fin)
def StopHere (P : Prop) : Prop := P
theorem stop_of {P : Prop} (h : StopHere P) : P := h
theorem stop_out {P : Prop} (h : P) : StopHere P := h
end Mine
end
section
open PySem PySem.W PyProof.Rows PySem.Calls
namespace Mine
set_option maxRecDepth 100000
local macro_rules | `(tactic| k_ne) => `(tactic| (refine neN ?_; (try dsimp only); first | with_reducible assumption | (refine' Nat.ne_of_gt (lt_of_all ?k9a ?k9b); (case k9a => with_reducible assumption); (case k9b => k_dflt k_mem)) | (refine' Nat.ne_of_lt (lt_of_all ?k9a ?k9b); (case k9a => with_reducible assumption); (case k9b => k_dflt k_mem)) | omega))
set_option maxHeartbeats 8000000 in
theorem law_holds : PySem.Challenge.rw_xm0811_01.Holds := hd (by
  w_strict (k_go0; (all_goals try k_fold); (repeat' (first | (k_unfold; (try dsimp only)) | (k_end; wrow_close) | (first | (with_reducible (first | ((with_reducible show wpAny _ _ (binaryOp Operator.Mult (Value.ref _) (Value.int _ _)) _ _ _); first | (k_here; (with_reducible show wpAny _ _ (binaryOp Operator.Mult (Value.ref _) (Value.int 256 _)) _ _ _); k_dflt (refine' rep_mul ?qhF ?qhN ?qhl ?_; (case qhF => k_asm); (case qhN => k_asm); (case qhl => k_mem); k_whole); intro big' D' h' hbig' F' N' l1; (try k_sweep))) | ((with_reducible show wpAny _ _ (binaryOp Operator.Add (Value.ref _) (Value.ref _)) _ _ _); first | (k_here; (with_reducible show wpAny _ _ (binaryOp _ (Value.ref _) (Value.ref _)) _ _ _); k_dflt (refine' list_add ?qhF ?qhN ?qha ?qhb ?qhz ?_; (case qhF => k_asm); (case qhN => k_asm); (case qha => k_mem); (case qhb => k_mem); (case qhz => ((simp only [List.length_cons, List.length_nil]); omega))); intro D' h' F' N' l1; (try k_sweep))) | ((with_reducible show wpAny _ _ (subscriptTail _ _ _ _) _ _ _); first | (k_here; (with_reducible show wpAny _ _ (subscriptTail _ (PySem.Expr.Name _ _) (Value.ref _) (Value.int _ _)) _ _ _); k_dflt (refine' item_row ?qhk1 ?qhk2 ?qhhr ?qhh0 ?qhh1 ?qhh2 ?_ ?qhk6; (case qhk1 => k_asm); (case qhk2 => k_mem); (case qhhr => with_reducible assumption); (case qhh0 => with_reducible assumption); (case qhh1 => with_reducible assumption); (case qhh2 => with_reducible assumption); (case qhk6 => with_unfolding_all rfl); k_whole); intro rx' cx' hcx' hrx') | (k_here; (with_reducible show wpAny _ _ (subscriptTail _ (PySem.Expr.Slice none _ none _) (Value.ref _) (Value.ref _)) _ _ _); k_dflt (refine' list_first ?qhF ?qhN ?qht ?qhz ?_ ?qhs ?qhg; (case qhF => k_asm); (case qhN => k_asm); (case qht => k_mem); (case qhz => omega); (case qhs => with_unfolding_all rfl); (case qhg => (intro r; with_unfolding_all rfl))); intro D' h' F' N' l1; (try k_sweep))) | ((with_reducible show wpAny _ _ (pyIter (Value.ref _)) _ _ _); first | (k_here; (with_reducible show wpAny _ _ (pyIter (Value.ref _)) (fun it s₂ => LoopAtV _ _ _ _ _ _ _ _ _ it s₂) _ _); (rename IsRange _ _ _ _ _ _ _ _ => rgX); k_dflt (refine' iter_rows ?qhhL ?qhhh ?qhhf rgX ?qhsm ?qhsn ?qhn1 ?qhn4 ?qhF ?qhN ?qhl ?qhs ?qhz ?qhd1 ?qhd2 ?qhd3 ?qhx ?qhy ?qhy2 ?qhturn ?qhdone; (case qhF => k_asm); (case qhhL => exact rfl); (case qhhh => exact rfl); (case qhhf => with_reducible assumption); (case qhsm => exact small_one (by omega) (by omega) (by omega) (by omega)); (case qhsn => exact rangeSize_nat _ _); (case qhn1 => omega); (case qhn4 => omega); (case qhN => k_asm); (case qhl => k_mem); (case qhs => k_mem); (case qhz => k_mem); (case qhd1 => k_ne); (case qhd2 => k_ne); (case qhd3 => k_ne); (case qhx => with_reducible assumption); (case qhy => with_reducible assumption); (case qhy2 => with_reducible assumption)); (case' qhturn => (intro i' t' h' tk' I' o' a0' o0' a1' o1' a2' o2' a3' o3' vs' rows' c' x' y' tx' ty' hri hi3 hvs lI sI zI f01 f02 f03 f11 f12 f13 f21 f22 f23 f31 f32 f33 hx' hy' hy2' F' N'; (try k_sweep); (try k_fold))); (case' qhdone => (intro u' h' tk' a0' o0' a1' o1' a2' o2' a3' o3' r0' i1' t1' i2' t2' i3' t3' i4' t4' vs' rows' c' x' y' tx' ty' hgr hlen hl1 hlo hhi hR fl fz f0 f1 f2 f3 f4 hx' hy' hy2' F' N'; (try k_sweep); (repeat (rename @LT.lt Nat _ _ _ ∧ _ => z9; clear z9)); (repeat (rename ∀ p ∈ (_ : List (Addr × Obj)), p.1 < _ => z9; clear z9)))))) | ((with_reducible show wpAny _ _ (newList _) _ _ _); first | (k_here; k_dflt (refine' newList_K ?qhk1 ?qhk2 ?_; (case qhk1 => k_asm); (case qhk2 => k_asm); k_whole); intro l' h' F' N' l1; (try k_sweep))) | ((with_reducible show wpAny _ _ (newTuple _) _ _ _); first | (k_here; k_dflt (refine' kup_newTuple ?qhk1 ?qhk2 ?_ ?qhk3; (case qhk1 => k_asm); (case qhk2 => k_asm); (case qhk3 => kmk_size)); intro D' h' F' N' l1; (try k_sweep))) | ((with_reducible show wpAny _ _ (eval (PySem.Expr.Name _ _) _) _ _ _); first | (k_here; k_dflt (first | (refine' nameX_L ?qhF ?qhv ?_ ?qha ?qhb; (case qhF => k_asm); (case qha => rfl); (case qhb => rfl); (case qhv => rfl); k_whole) | (refine' nameX_K ?qhF ?qhX ?qhT ?qhe ?_ ?qha ?qhb; (case qhF => k_asm); (case qhX => k_asm); (case qhT => k_asm); (case qha => rfl); (case qhb => rfl); (case qhe => k_is); k_whole) | (refine' nameX_B ?qhF ?qhX ?qhT ?qhe ?qhv ?qhn ?_ ?qha ?qhb; (case qhF => k_asm); (case qhX => k_asm); (case qhT => k_asm); (case qha => rfl); (case qhb => rfl); (case qhe => k_is); (case qhv => boot_fast); (case qhn => decide); k_whole)))) | ((with_reducible show RowsPost _ _ _ _ _ _ _ _ _ _ _ _ _ _ _ _); first | (k_here; k_dflt (refine' RowsPost.next ?qhF ?qhN ?qhho ?qhhl ?qhhs ?qhhd ?qhn1 ?qhn2 ?qhn3 ?qhhx ?qhhy ?qhhy2 ?qhe1 ?qhhg ?qhhm; (case qhF => k_asm); (case qhN => k_asm); (case qhho => exact (sub6 (by k_mem) (by k_mem) (by k_mem) (by k_mem) (by k_mem) (by k_mem))); (case qhhl => k_mem); (case qhhs => k_mem); (case qhhd => k_mem); (case qhn1 => k_ne); (case qhn2 => k_ne); (case qhn3 => k_ne); (case qhhx => with_reducible assumption); (case qhhy => with_reducible assumption); (case qhhy2 => with_reducible assumption); (case qhe1 => omega); (case qhhg => exact (goodRow_of (by with_reducible assumption) (by omega) (by omega) (by with_reducible assumption) (by with_reducible assumption) (by with_reducible assumption) (by with_reducible assumption) (by with_reducible assumption) (by with_reducible assumption))); (case qhhm => (intro z hz; exact if_neg hz))))) | ((with_reducible show wpAny _ _ (call _ _) _ _ _); first | ((with_reducible show wpAny _ _ (call (Value.ref _) _) _ _ _); first | (k_here; (with_reducible show wpAny _ _ (call (Value.ref 175) [Value.ref _, Value.int _ _, Value.int _ _, Value.int _ _]) _ _ _); k_dflt (refine' bent_call ?qhk1 ?qhk2 ?qhk3 ?qhk4 ?qhk5 ?qhk6 ?qhk7 ?qhk8 ?qhhl ?qhhrows ?qhhg ?qhh0 ?qhhd1 ?qhhb ?_; (case qhk1 => k_asm); (case qhk2 => k_asm); (case qhk3 => k_asm); (case qhk4 => k_asm); (case qhk5 => k_asm); (case qhk6 => first | exact rfl | assumption); (case qhhl => k_mem); (case qhhrows => (refine' RowsAt.mono ?qhra ?qhrb; (case qhra => with_reducible assumption); (case qhrb => ((with_reducible refine' sub4 ?qhs0 ?qhs1 ?qhs2 ?qhs3); (case qhs0 => k_mem); (case qhs1 => k_mem); (case qhs2 => k_mem); (case qhs3 => k_mem))))); (case qhhg => with_reducible assumption); (case qhh0 => with_reducible assumption); (case qhhd1 => with_reducible assumption); (case qhhb => first | exact (bent_0 (by with_reducible assumption)) | exact (bent_1 (by with_reducible assumption)) | exact (bent_2 (by with_reducible assumption)) | exact (bent_3 (by with_reducible assumption))); (case qhk7 => ktr_room); (case qhk8 => ktr_units); k_whole); k_dflt (intro lb' rw' vs' c' rows' o' h' tk' hR' hn' hf' F' N')) | (k_here; (with_reducible show wpAny _ _ (call (Value.ref 161) [Value.int _ _, Value.int _ _, Value.ref _, _]) _ _ _); (fail_if_success (with_reducible show wpAny _ _ (call (Value.ref 161) [Value.int _ _, Value.int _ _, Value.ref _, Value.ref _]) _ _ _)); k_dflt (refine' told_many ?qhk1 ?qhk2 ?qhk3 ?qhk4 ?qhk5 ?qhk6 ?qhk7 ?qhk8 ?qhXB ?qhTB ?qhhsz ?qhhbig ?qhhv ?qhhl ?qhhr ?qhg ?qhhh ?qhhw ?_; (case qhk1 => k_asm); (case qhk2 => k_asm); (case qhk3 => k_asm); (case qhk4 => k_asm); (case qhk5 => k_asm); (case qhk6 => first | exact rfl | assumption); (case qhXB => k_asm); (case qhTB => k_asm); (case qhhsz => k_mem); (case qhhbig => with_reducible assumption); (case qhhv => with_reducible assumption); (case qhhl => k_mem); (case qhhr => k_mem); (case qhg => with_reducible assumption); (case qhhh => exact (goodH_of (by with_reducible assumption))); (case qhhw => exact (goodW_of (by with_reducible assumption) (by with_reducible assumption) (by with_reducible assumption))); (case qhk7 => ktr_room); (case qhk8 => ktr_units); k_whole); k_dflt (intro t' h' tk' F' N'; (repeat (replace N' := news_9 N')); (with_reducible repeat (rename @LT.lt Nat _ _ _ ∧ _ => z9; clear z9)))) | (k_here; (with_reducible show wpAny _ _ (call (Value.ref 161) [Value.int 192 _, Value.int 8 _, Value.ref _, Value.ref _]) _ _ _); k_dflt (refine' told_msg ?qhk1 ?qhk2 ?qhk3 ?qhk4 ?qhk5 ?qhk6 ?qhk7 ?qhk8 ?qhXB ?qhTB ?qhhsz ?qhhl ?qhhrows ?qhhn ?qhhm ?_; (case qhk1 => k_asm); (case qhk2 => k_asm); (case qhk3 => k_asm); (case qhk4 => k_asm); (case qhk5 => k_asm); (case qhk6 => first | exact rfl | assumption); (case qhXB => k_asm); (case qhTB => k_asm); (case qhhsz => k_mem); (case qhhl => k_mem); (case qhhrows => (refine' rowsAt_cons ?qhra ?qhrb; (case qhra => k_mem); (case qhrb => exact rowsAt_0))); (case qhhn => exact (.inl (Nat.le_of_ble_eq_true rfl))); (case qhhm => exact tv_first); (case qhk7 => ktr_room); (case qhk8 => ktr_units); k_whole); k_dflt (intro t' h' tk' F' N')) | (k_here; (with_reducible show wpAny _ _ (call (Value.ref 161) [Value.int _ _, Value.int _ _, Value.ref _, Value.ref _]) _ _ _); k_dflt (refine' told_msg ?qhk1 ?qhk2 ?qhk3 ?qhk4 ?qhk5 ?qhk6 ?qhk7 ?qhk8 ?qhXB ?qhTB ?qhhsz ?qhhl ?qhhrows ?qhhn ?qhhm ?_; (case qhk1 => k_asm); (case qhk2 => k_asm); (case qhk3 => k_asm); (case qhk4 => k_asm); (case qhk5 => k_asm); (case qhk6 => first | exact rfl | assumption); (case qhXB => k_asm); (case qhTB => k_asm); (case qhhsz => k_mem); (case qhhl => k_mem); (case qhhrows => (refine' RowsAt.mono ?qhra ?qhrb; (case qhra => with_reducible assumption); (case qhrb => ((with_reducible refine' sub4 ?qhs0 ?qhs1 ?qhs2 ?qhs3); (case qhs0 => k_mem); (case qhs1 => k_mem); (case qhs2 => k_mem); (case qhs3 => k_mem))))); (case qhhn => (left; omega)); (case qhhm => first | exact (tv_ok (by with_reducible assumption) (goodH_of (by with_reducible assumption)) (goodW_of (by with_reducible assumption) (by with_reducible assumption) (by with_reducible assumption)) (by with_reducible assumption)) | exact (tv_odd (by with_reducible assumption)) | exact (tv_other (by with_reducible assumption)) | exact (tv_h (by with_reducible assumption) (by with_reducible assumption)) | exact (tv_w (by with_reducible assumption) (goodH_of (by with_reducible assumption)) (by with_reducible assumption))); (case qhk7 => ktr_room); (case qhk8 => ktr_units); k_whole); k_dflt (intro t' h' tk' F' N'; (repeat (replace N' := news_9 N')); (with_reducible repeat (rename @LT.lt Nat _ _ _ ∧ _ => z9; clear z9)))) | (k_here; (with_reducible show wpAny _ _ (call (Value.ref 161) [Value.int _ _, Value.int _ _, Value.ref _, Value.ref _]) _ _ _); k_dflt (refine' told_msg ?qhk1 ?qhk2 ?qhk3 ?qhk4 ?qhk5 ?qhk6 ?qhk7 ?qhk8 ?qhXB ?qhTB ?qhhsz ?qhhl ?qhhrows ?qhhn ?qhhm ?_; (case qhk1 => k_asm); (case qhk2 => k_asm); (case qhk3 => k_asm); (case qhk4 => k_asm); (case qhk5 => k_asm); (case qhk6 => first | exact rfl | assumption); (case qhXB => k_asm); (case qhTB => k_asm); (case qhhsz => k_mem); (case qhhl => k_mem); (case qhhrows => with_reducible assumption); (case qhhn => exact (.inl (And.right (by with_reducible assumption)))); (case qhhm => exact (tv_bent' (by with_reducible assumption) (goodH_of (by with_reducible assumption)) (goodW_of (by with_reducible assumption) (by with_reducible assumption) (by with_reducible assumption)) (by with_reducible assumption) (by with_reducible assumption))); (case qhk7 => ktr_room); (case qhk8 => ktr_units); k_whole); k_dflt (intro t' h' tk' F' N'; (replace N' := news_tail2 N'))) | (k_here; (with_reducible show wpAny _ _ (call (Value.ref 161) [Value.int _ _, Value.int _ _, Value.ref _, Value.ref _]) _ _ _); k_dflt (refine' told_msg ?qhk1 ?qhk2 ?qhk3 ?qhk4 ?qhk5 ?qhk6 ?qhk7 ?qhk8 ?qhXB ?qhTB ?qhhsz ?qhhl ?qhhrows ?qhhn ?qhhm ?_; (case qhk1 => k_asm); (case qhk2 => k_asm); (case qhk3 => k_asm); (case qhk4 => k_asm); (case qhk5 => k_asm); (case qhk6 => first | exact rfl | assumption); (case qhXB => k_asm); (case qhTB => k_asm); (case qhhsz => k_mem); (case qhhl => k_mem); (case qhhrows => exact (rowsAt_dup (by with_reducible assumption) (by with_reducible assumption) (sub4 (by k_mem) (by k_mem) (by k_mem) (by k_mem)))); (case qhhn => (left; (simp only [List.length_append, List.length_cons, List.length_nil]); omega)); (case qhhm => exact (tv_dup' (by with_reducible assumption) (goodH_of (by with_reducible assumption)) (goodW_of (by with_reducible assumption) (by with_reducible assumption) (by with_reducible assumption)) (by with_reducible assumption) rfl (by with_reducible assumption))); (case qhk7 => ktr_room); (case qhk8 => ktr_units); k_whole); k_dflt (intro t' h' tk' F' N'; refine stop_of ?_)) | (k_here; (with_reducible show wpAny _ _ (call (Value.ref 168) [Value.ref _]) _ _ _); k_dflt (refine' code_call ?qhk1 ?qhk2 ?qhk3 ?qhk4 ?qhk5 ?qhk6 ?qhk7 ?qhk8 ?qhhs ?qhhx ?qhhy ?qhhy2 ?_; (case qhk1 => k_asm); (case qhk2 => k_asm); (case qhk3 => k_asm); (case qhk4 => k_asm); (case qhk5 => k_asm); (case qhk6 => first | exact rfl | assumption); (case qhhs => k_mem); (case qhhx => with_reducible assumption); (case qhhy => with_reducible assumption); (case qhhy2 => with_reducible assumption); (case qhk7 => ktr_room); (case qhk8 => ktr_units); k_whole); k_dflt (intro code' prec' other' t1' t2' t3' tup' h' tk' x' y' tx' ty' gc' hne' F' hT' N2' hx' hy' hy2'; (have N' := news_join N2' (hT' _ (by k_upd))); clear hT' N2')) | (k_here; (with_reducible show wpAny _ _ (call (Value.ref 142) [Value.ref _]) _ _ _); k_dflt (refine' pool_call (news := []) ?qhk1 ?qhk2 ?qhk3 ?qhk4 ?qhk5 ?qhk6 ?qhk7 ?qhk8 ?qhhl ?qhhi ?qhhlay ?qhhlen ?_; (case qhk1 => k_asm); (case qhk2 => k_asm); (case qhk3 => k_asm); (case qhk4 => exact News.nil); (case qhk5 => k_asm); (case qhk6 => first | exact rfl | assumption); (case qhhl => assumption); (case qhhi => assumption); (case qhhlay => assumption); (case qhhlen => omega); (case qhk7 => ktr_room); (case qhk8 => ktr_units); k_whole); intro h' tk' src' x' y' tx' ty' kk' F' N' hx' hy' hy2') | (k_here; (with_reducible show wpAny _ _ (call (Value.ref 156) [Value.ref _, Value.ref _]) _ _ _); k_dflt (refine' one_int ?qhk1 ?qhk2 ?qhk3 ?qhk4 ?qhk5 ?qhk6 ?qhk7 ?qhk8 ?qhhs ?qhhl ?qhhne ?qhhx ?qhhy ?qhhy2 ?qhhv ?_; (case qhk1 => k_asm); (case qhk2 => k_asm); (case qhk3 => k_asm); (case qhk4 => k_asm); (case qhk5 => k_asm); (case qhk6 => first | exact rfl | assumption); (case qhhs => k_mem); (case qhhl => k_mem); (case qhhne => k_ne); (case qhhx => with_reducible assumption); (case qhhy => with_reducible assumption); (case qhhy2 => with_reducible assumption); (case qhhv => rfl); (case qhk7 => ktr_room); (case qhk8 => ktr_units); k_whole); k_dflt (intro n' t' h' tk' x' y' tx' ty' hn' F' hT' hx' hy' hy2'; (have N' := hT' _ (by k_upd)); clear hT'; (simp only [List.map_cons, List.map_nil, intOf] at hn'))) | (k_here; (with_reducible show wpAny _ _ (call (Value.ref 149) [Value.ref _, Value.int _ _]) _ _ _); k_dflt (refine' take_call ?qhk1 ?qhk2 ?qhk3 ?qhk4 ?qhk5 ?qhk6 ?qhk7 ?qhk8 ?qhhs ?qhhx ?qhhy ?qhhy2 ?qhht ?qhht2 ?_; (case qhk1 => k_asm); (case qhk2 => k_asm); (case qhk3 => k_asm); (case qhk4 => k_asm); (case qhk5 => k_asm); (case qhk6 => first | exact rfl | assumption); (case qhhs => k_mem); (case qhhx => with_reducible assumption); (case qhhy => with_reducible assumption); (case qhhy2 => with_reducible assumption); (case qhht => omega); (case qhht2 => omega); (case qhk7 => ktr_room); (case qhk8 => ktr_units); k_whole); k_dflt (intro d' t' h' tk' x' y' tx' ty' F' hT' hd' hd2' hx' hy' hy2'; (have N' := hT' _ (by k_upd)); clear hT')) | (k_here; (with_reducible show wpAny _ _ (call (Value.ref 156) [Value.ref _, Value.ref _]) _ _ _); k_dflt (refine' one_call ?qhk1 ?qhk2 ?qhk3 ?qhk4 ?qhk5 ?qhk6 ?qhk7 ?qhk8 ?qhhs ?qhhl ?qhhne ?qhhx ?qhhy ?qhhy2 ?qhhv1 ?qhhv2 ?_; (case qhk1 => k_asm); (case qhk2 => k_asm); (case qhk3 => k_asm); (case qhk4 => k_asm); (case qhk5 => k_asm); (case qhk6 => first | exact rfl | assumption); (case qhhs => k_mem); (case qhhl => (first | exact List.Mem.head _ | k_mem)); (case qhhne => k_ne); (case qhhx => with_reducible assumption); (case qhhy => with_reducible assumption); (case qhhy2 => with_reducible assumption); (case qhhv1 => exact Nat.le_of_ble_eq_true rfl); (case qhhv2 => exact Nat.le_of_ble_eq_true rfl); (case qhk7 => ktr_room); (case qhk8 => ktr_units); k_whole); k_dflt (intro v' h' tk' x' y' tx' ty' hv' F' hT' hx' hy' hy2'; (have N' := hT' _ (by k_upd)); clear hT'))) | ((with_reducible show wpAny _ _ (call (Value.builtin "len") _) _ _ _); first | (k_here; k_dflt (refine' kst_len ?qhk1 ?qhk2 ?qhk4 ?qhk3 ?_; (case qhk1 => k_asm); (case qhk2 => k_mem); (case qhk4 => with_reducible assumption); (case qhk3 => omega); k_whole))) | ((with_reducible show wpAny _ _ (call (Value.builtin "list.append") _) _ _ _); first | (k_here; (with_reducible show wpAny _ _ (call (Value.builtin _) [Value.ref _, _]) _ _ _); k_dflt (refine' append_rows ?qhk1 ?qhk2 ?qhk3 ?qhk4 ?_; (case qhk1 => k_asm); (case qhk2 => k_asm); (case qhk3 => k_upd); (case qhk4 => omega); k_whole); intro h' F' N'; (try k_sweep))) | ((with_reducible show wpAny _ _ (call (Value.type "range") _) _ _ _); first | (k_here; (rename Fr _ _ _ _ => lF); (rename News _ _ _ _ => lN); with_unfolding_all refine range1_rows lF lN ?_; intro _ _ _ _ _ _ _ _ _))))) | ((with_reducible show wpAny _ _ (call (Value.type "range") _) _ _ _); (k_here; (rename Fr _ _ _ _ => lF); (rename News _ _ _ _ => lN); with_unfolding_all refine range1_rows lF lN ?_; intro _ _ _ _ _ _ _ _ _))) | ((first | with_reducible show wpAny _ _ (eval (PySem.Expr.Call _ _ _ _) _) _ _ _ | with_reducible show wpAny _ _ (eval (PySem.Expr.List _ _) _) _ _ _ | with_reducible show wpAny _ _ (eval (PySem.Expr.Tuple _ _ _) _) _ _ _ | with_reducible show wpAny _ _ (eval (PySem.Expr.Subscript _ _ _) _) _ _ _ | with_reducible show wpAny _ _ (eval (PySem.Expr.BinOp _ _ _ _) _) _ _ _); refine qfold ?_; intro q9; walk1) | walk1 | (dsimp only; walk1) | (leave1; walk_say "STEP leave1"; try dsimp only) | fail "no step")))
  refine stop_out ?_
  walk1
  walk1
  with_reducible rename Fr _ _ _ _ => lF9
  exact law_end lF9 (by with_reducible assumption) rfl (beq_self_eq_true _))
end Mine
end
set_option maxRecDepth 100000 in
set_option maxHeartbeats 8000000 in
theorem PySem.Challenge.cw_xm0811_01_holds : PySem.Challenge.rw_xm0811_01.Holds :=
  Mine.law_holds
