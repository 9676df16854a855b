import PyProof.Rows.All
import Wide.All
import OpenK.AllK
import Wide.FinOn
import PyProof.ExcInit
import PyProof.InstStoreFacts
import PySem.Challenge.RW_og0129_01
open PySem PySem.W PyProof.Rows
set_option Elab.async false
set_option maxRecDepth 100000

set_option maxRecDepth 100000 in
set_option maxHeartbeats 8000000 in
open_top Mine.hd for PySem.Challenge.rw_og0129_01

namespace Mine
/-- the head leaves a switch of the walker on: off for the texts below -/
theorem switch_off : True := by
  w_top off
  trivial
end Mine

namespace Mine

abbrev tupO (vs : List Value) : Obj := { cls := .type "tuple", data := .seq vs.toArray }

section
variable {prog : Program} {w : World} {A : Around} {E : Value → Shared → Prop} {s : Shared} {h₀ : Heap} {L : Addr} {m : Str → Option Value} {news : List (Addr × Obj)}

theorem adjust_one (n : Nat) (hn : 1 ≤ n) : Builtin.Slice.sliceAdjust none (some (1 : Int)) 1 (n : Int) = ((0 : Int), (1 : Int)) := by
  unfold Builtin.Slice.sliceAdjust
  have h1 : ¬ ((1 : Int) < 0) := by omega
  simp only [h1, if_false]
  congr 1
  omega
theorem places_one : Builtin.Slice.slicePlaces (0 : Int) (1 : Int) 1 = 1 := by decide

theorem sliceApplied_one {sl : Addr} {n : Nat} {u : Tok} {Q : Int × Int × Nat → Shared → Prop} (hs : s.heap.IsSliceOf sl .none (.int 1 u) .none) (hn : 1 ≤ n) (h : Q ((0 : Int), 1, 1) s) :
    wpAny (model prog w) A (Builtin.Slice.sliceApplied (.ref sl) (pure (n : Int))) Q E s := by
  obtain ⟨os, hos, hcs, hds⟩ := id hs
  unfold Builtin.Slice.sliceApplied Builtin.Slice.sliceFields
  refine wpAny_bind (wpAny_bind (wpAny_field hos hds (x := .none) rfl (wpAny_bind (wpAny_field hos hds (x := .int 1 u) rfl (wpAny_bind (wpAny_field hos hds (x := .none) rfl (wpAny_pure ?_)))))))
  refine wpAny_bind (slicePart_none ?_)
  show wpAny _ _ (if ((1 : Int) == 0) = true then _ else _) _ _ s
  rw [if_neg (by decide)]
  refine wpAny_bind (slicePart_none (wpAny_bind (slicePart_int (wpAny_bind (wpAny_pure ?_)))))
  show wpAny _ _ (match Builtin.Slice.sliceAdjust none (some (1 : Int)) 1 (n : Int) with | (lo, hi) => pure (lo, (1 : Int), Builtin.Slice.slicePlaces lo hi 1)) _ _ s
  rw [adjust_one n hn]
  show wpAny _ _ (pure ((0 : Int), (1 : Int), Builtin.Slice.slicePlaces (0 : Int) (1 : Int) 1)) _ _ s
  rw [places_one]
  exact wpAny_pure h

theorem getItem_tuple_one {t sl : Addr} {v : Value} {vs : List Value} {u : Tok} {Q : Value → Shared → Prop} (ht : IsTup s.heap t (v :: vs).toArray) (hs : s.heap.IsSliceOf sl .none (.int 1 u) .none)
    (h1 : vs = [] → Q (.ref t) s)
    (h : vs ≠ [] → Q (.ref s.heap.objs.size) { s with heap := s.heap.push (tupO [v]) }) : wpAny (model prog w) A (getItem (.ref t) (.ref sl)) Q E s := by
  obtain ⟨os, hos, hcs, hds⟩ := id hs
  have hTs : s.TypeIs (.ref sl) "slice" := ⟨os, hos, hcs⟩
  unfold getItem
  try with_reducible refine wpAny_holding ?_
  first | refine wpAny_bind (wpAny_pure ?_) | skip
  refine wpAny_bind (wpAny_sequenceKey ht.typeIs (by decide) ?_)
  refine wpAny_bind (wpAny_callSpecial?_slot (name := Str.ofString "__getitem__") ht.typeIs slot_tuple_getitem
    (wpAny_call_entry slot_tuple_getitem ht.typeIs entry_tuple_getitem ?_ (args_tuple_getitem _ _)))
  show wpAny _ _ (Builtin.Tuple.tupleItemsOf (.ref t) >>= _) _ _ s
  refine wpAny_bind (tupleItemsOf_ ht ?_)
  refine wpAny_bind (wpAny_typeOf hTs ?_)
  rw [if_pos (by decide)]
  refine wpAny_bind (sliceApplied_one hs (by simp) ?_)
  show wpAny _ _ (if ((0 : Int) == 0 && (1 : Int) == 1 && (1 : Nat) == (v :: vs).toArray.size) = true then _ else _) _ _ s
  cases vs with
  | nil =>
    rw [if_pos (by simp)]
    have := h1 rfl
    refine wpAny_bind ?_
    unfold Builtin.Tuple.tupleIsExact
    refine wpAny_bind (wpAny_typeOf ht.typeIs (wpAny_pure ?_))
    rw [if_pos (by decide)]
    exact wpAny_bind (wpAny_rule (wpAny_pure ⟨_, rfl, wpAny_pure this⟩))
  | cons v2 r =>
    rw [if_neg (by simp)]
    have hpick : ((List.range 1).filterMap fun (k : Nat) => (v :: v2 :: r).toArray[((0 : Int) + (k : Int) * 1).toNat]?).toArray = [v].toArray := by
      simp [List.range_succ]
    rw [hpick]
    have hq := h (by simp)
    have hdrop : sizeOk (.seq [v].toArray) := by
      show [v].toArray.size ≤ sizeLine
      rw [sizeLine_eq]; simp
    first
      | exact wpAny_bind (m := Builtin.Tuple.tupleExact _) (wpAny_newObj_type (wpAny_pure ⟨_, rfl, wpAny_pure hq⟩) hdrop)
      | exact wpAny_bind (m := Builtin.Tuple.tupleExact _) (wpAny_newObj_type (wpAny_bind (wpAny_pure (wpAny_pure ⟨_, rfl, wpAny_pure hq⟩))) hdrop)
      | exact wpAny_bind (wpAny_bind (m := Builtin.Tuple.tupleExact _) (wpAny_newObj_type (wpAny_pure (wpAny_pure ⟨_, rfl, wpAny_pure hq⟩)) hdrop))
      | exact wpAny_bind (wpAny_bind (m := Builtin.Tuple.tupleExact _) (wpAny_newObj_type (wpAny_pure ⟨_, rfl, wpAny_pure hq⟩) hdrop))

/-- t[:1] of a made tuple with at least one item -/
theorem slice_one {value slice : Expr} {t : Addr} {v : Value} {vs : List Value} {u : Tok} {Q : Value → Shared → Prop}
    (F : Fr h₀ L s.heap m) (N : News h₀ L s.heap news) (ht : (t, tupO (v :: vs)) ∈ news)
    (h : ∀ D h' made, Fr h₀ L h' m → News h₀ L h' (made ++ news) → (D, tupO [v]) ∈ made ++ news → (∀ p ∈ made, s.heap.objs.size ≤ p.1) → Q (.ref D) { s with heap := h' })
    (hs : subscripted slice false (.ref t) (.ref s.heap.objs.size) = operate [.ref s.heap.objs.size, .ref t] (getItem (.ref t) (.ref s.heap.objs.size)))
    (hg : ∀ r, letTemporaryGo value (.ref t) r = pure ()) :
    wpAny (model prog w) A (subscriptTail value slice (.ref t) (.ref s.heap.objs.size)) Q E { s with heap := s.heap.push { cls := .type "slice", data := .fields #[.none, .int 1 u, .none] } } := by
  have ht0 : IsTup s.heap t (v :: vs).toArray := ⟨_, (N _ ht).1, rfl, _, rfl⟩
  have ht' : IsTup (s.heap.push { cls := .type "slice", data := .fields #[.none, .int 1 u, .none] }) t (v :: vs).toArray := ht0.keeps fun _ _ e => Heap.get?_push_of_some _ e
  refine subscriptTail_ops (s := { s with heap := s.heap.push { cls := .type "slice", data := .fields #[.none, .int 1 u, .none] } }) ht'.typeIs slot_tuple_getitem.lookup
    (getItem_tuple_one ht' (Heap.IsSliceOf.new ..) (fun e => ?_) (fun e => ?_)) hs hg
  · subst e
    exact h t _ [] (F.push _) (N.grown fun _ _ e => Heap.get?_push_of_some _ e) ht (fun _ hp => nomatch hp)
  · have N1 := News.push (F.push { cls := .type "slice", data := .fields #[.none, .int 1 u, .none] }) (N.grown fun _ _ e => Heap.get?_push_of_some _ e) (tupO [v])
    refine h _ _ [(_, tupO [v])] ((F.push _).push _) N1 (.head _) (fun p hp => ?_)
    rw [List.mem_singleton.mp hp]
    show s.heap.objs.size ≤ (s.heap.push _).objs.size
    rw [Heap.size_push]; exact Nat.le_succ _
end
end Mine

namespace Mine

def ffTail : List Value := [.ref 46, .type "Exception", .type "BaseException", .type "object"]

section
variable {prog : Program} {w : World} {A : Around} {E : Value → Shared → Prop} {h : Heap} {g : Array GenState} {d : Drawn} {t : Nat} {os : OsState}
variable {nm q : Str} {N : Addr} {bs : List Value} {hdct : Bool} {sn : List Str} {sub : List Value} {ab : Bool} {col : Option Bool} {dd : Option Addr} {k0 k1 k2 k3 k5 : Option Value}
variable {c0 : Value} {ddP : Option Addr} {cdP : ClassData} {slP : Array (Option Value)} {mN mP : Str → Option Value} {fI : Addr} {oI : Obj}

theorem ff_check_new {rest : List Value} {Q : Unit → Shared → Prop} (hC : h.get? 59 = some (excClassObj nm q 59 N bs ffTail hdct sn sub ab col dd k0 k1 k2 k3 k5 "Exception.__new__"))
    (hq : Q () ⟨h, g, d, t, os⟩) : wpAny (model prog w) A (checkBuiltinCall "Exception.__new__" ⟨.ref 59 :: rest, []⟩) Q E ⟨h, g, d, t, os⟩ := by
  have F := PySem.F.excBase_Exception
  have hcont : (Value.ref 59 :: ffTail).contains (.type "Exception") = true := by decide
  have hstar := F.noStar
  simp only [checkBuiltinCall, F.newKind, F.newSplit, F.newRow]
  repeat (first | refine wpAny_loadPart_at hC ?_ | (refine wpAny_isSubtype_exc hC ?_; rw [hcont]) | refine wpAny_staticBase_exc hC ?_ | refine wpAny_madeBy_exc hC ?_ | simp only [bne_self_eq_false, Bool.false_eq_true, if_false] | wp_step)
  exact hq

theorem ff_new {R : Result → Shared → Prop} {rest : List Value} (hC : h.get? 59 = some (excClassObj nm q 59 N bs ffTail hdct sn sub ab col dd k0 k1 k2 k3 k5 "Exception.__new__"))
    (hq : R (.ok (.ret (.ref (h.objs.size + 1)))) ⟨(h.push { cls := .type "tuple", data := .seq rest.toArray }).push
      { cls := .ref 59, data := .fields #[.ref h.objs.size, .none, .none, .none, .bool false, .none] }, g, d, t, os⟩) (hrest : rest.length ≤ sizeLine) :
    codeAny (model prog w) A (.builtin "Exception.__new__" ⟨.ref 59 :: rest, []⟩) R ⟨h, g, d, t, os⟩ := by
  have F := PySem.F.excBase_Exception
  have hends := F.ends
  have hcB : (Value.ref 59 :: ffTail).contains (.type "Exception") = true := by decide
  have hcA : (Value.ref 59 :: ffTail).contains (.type "AttributeError") = false := by decide
  have hcN : (Value.ref 59 :: ffTail).contains (.type "NameError") = false := by decide
  refine codeAny_builtinAt F.entry ?_
  unfold Builtin.«BaseException.__new__»
  refine PySem.wpAt_bind ?_
  show PySem.wpAt _ _ _ (stack >>= _) _ _ _
  refine PySem.wpAt_bind (PySem.wpAt_stack fun p below => PySem.wpAt_of_wpAny ?_)
  wp_walk
  refine PySem.wpAt_of_wpAny ?_
  rw [F.owner]
  repeat (first | with_reducible refine wpAny_madeHere_exc F.canon hC ?_ | with_reducible refine wpAny_loadPart_at hC ?_ | (with_reducible refine wpAny_isSubtype_exc hC ?_; first | rw [hcB] | rw [hcA] | rw [hcN]) | wp_step)
  show R _ _
  rw [Heap.size_push]
  exact hq

theorem ff_typeLookup {Q : Option Value → Shared → Prop} (hC : h.get? 59 = some (excClassObj nm q 59 N bs ffTail hdct sn sub ab col dd k0 k1 k2 k3 k5 "Exception.__new__")) (hn : h.Ns N mN) (hn0 : mN "__init__" = none)
    (hP : h.get? 46 = some { cls := c0, dict := ddP, data := .cls cdP, slots := slP }) (hnP : h.Ns cdP.ns mP) (hi : mP "__init__" = some (.ref fI)) (hq : Q (some (.ref fI)) ⟨h, g, d, t, os⟩) :
    wpAny (model prog w) A (typeLookup (.ref 59) "__init__") Q E ⟨h, g, d, t, os⟩ := by
  rw [typeLookup_eq]
  refine wpAny_bind (wpAny_mroOf_exc hC ?_)
  rw [lookupAlong_cons]
  refine wpAny_bind (wpAny_classOwn_exc hC hn ?_)
  rw [hn0]
  show wpAny _ _ (lookupAlong (.ref 46 :: _) "__init__") _ _ _
  rw [lookupAlong_cons]
  refine wpAny_bind (wpAny_classOwn_cls hP hnP ?_)
  rw [hi]
  exact wpAny_pure hq

theorem ff_type_call {rest : List Value} {Q : Fin → Shared → Prop}
    (hC : h.get? 59 = some (excClassObj nm q 59 N bs ffTail hdct sn sub ab col dd k0 k1 k2 k3 k5 "Exception.__new__")) (hn : h.Ns N mN) (hn0 : mN "__init__" = none)
    (hP : h.get? 46 = some { cls := c0, dict := ddP, data := .cls cdP, slots := slP }) (hnP : h.Ns cdP.ns mP) (hi : mP "__init__" = some (.ref fI))
    (hfI : h.get? fI = some oI) (hfc : oI.cls = .type "function")
    (hq : wpAny (model prog w) A (call (.ref fI) (.ref (h.objs.size + 1) :: rest)) (fun r s' => r = .none ∧ Q (.done (.ret (.ref (h.objs.size + 1)))) s') E ⟨(h.push { cls := .type "tuple", data := .seq rest.toArray }).push
      { cls := .ref 59, data := .fields #[.ref h.objs.size, .none, .none, .none, .bool false, .none] }, g, d, t, os⟩) (hrest : rest.length ≤ sizeLine) :
    wpAny (model prog w) A (Builtin.«type.__call__» ⟨.ref 59 :: rest, []⟩) Q E ⟨h, g, d, t, os⟩ := by
  have F := PySem.F.excBase_Exception
  repeat (first | with_reducible refine wpAny_loadPart_at hC ?_ | with_reducible refine wpAny_madeBy_exc hC ?_ | wp_step)
  refine codeAny_call_builtin_code (Code.quiet_builtin _ F.quiet) (ff_check_new hC ?_)
  refine ff_new hC ?_ hrest
  show wpAny _ _ _ _ _ _
  have hk : ∀ b o, h.get? b = some o → ((h.push { cls := .type "tuple", data := .seq rest.toArray }).push
      { cls := .ref 59, data := .fields #[.ref h.objs.size, .none, .none, .none, .bool false, .none] }).get? b = some o := fun b o e => Heap.get?_push_of_some _ (Heap.get?_push_of_some _ e)
  have hC₁ := hk _ _ hC
  have hP₁ := hk _ _ hP
  have hfI₁ := hk _ _ hfI
  have hn₁ := hn.keeps hk
  have hnP₁ := hnP.keeps hk
  have hget : ((h.push { cls := .type "tuple", data := .seq rest.toArray }).push
      { cls := .ref 59, data := .fields #[.ref h.objs.size, .none, .none, .none, .bool false, .none] }).get? (h.objs.size + 1) = some
      { cls := .ref 59, data := .fields #[.ref h.objs.size, .none, .none, .none, .bool false, .none] } := by heap_get
  have hcC : (Value.ref 59 :: ffTail).contains (.ref 59) = true := by decide
  unfold isInstance
  repeat (first | with_reducible refine wpAny_loadPart_at hget ?_ | (with_reducible refine wpAny_isSubtype_exc hC₁ ?_; rw [hcC]) | wp_step)
  show wpAny _ _ (typeLookup (.ref 59) _) _ _ _
  refine ff_typeLookup hC₁ hn₁ hn0 hP₁ hnP₁ hi ?_
  refine wpAny_holding (wpAny_bind ?_)
  unfold bindSpecial
  refine wpAny_bind (wpAny_typeOf (T := "function") ⟨_, hfI₁, hfc⟩ ?_)
  rw [if_pos (by decide)]
  refine wpAny_pure (wpAny_bind (wpAny_mono hq (fun r s' hr => ?_) fun _ _ x => x))
  obtain ⟨rfl, hQ⟩ := hr
  wp_walk
  exact hQ

/-- FilterFault(..): the object is made, its __init__ is the caller's to walk -/
theorem ff_call {rest : List Value} {Q : Value → Shared → Prop}
    (hC : h.get? 59 = some (excClassObj nm q 59 N bs ffTail hdct sn sub ab col dd k0 k1 k2 k3 k5 "Exception.__new__")) (hn : h.Ns N mN) (hn0 : mN "__init__" = none)
    (hP : h.get? 46 = some { cls := c0, dict := ddP, data := .cls cdP, slots := slP }) (hnP : h.Ns cdP.ns mP) (hi : mP "__init__" = some (.ref fI))
    (hfI : h.get? fI = some oI) (hfc : oI.cls = .type "function")
    (hq : wpAny (model prog w) (A.under (.builtin "type.__call__" ⟨.ref 59 :: rest, []⟩)) (call (.ref fI) (.ref (h.objs.size + 1) :: rest)) (fun r s' => r = .none ∧ Q (.ref (h.objs.size + 1)) s') E ⟨(h.push { cls := .type "tuple", data := .seq rest.toArray }).push
      { cls := .ref 59, data := .fields #[.ref h.objs.size, .none, .none, .none, .bool false, .none] }, g, d, t, os⟩) (hrest : rest.length ≤ sizeLine) :
    wpAny (model prog w) A (call (.ref 59) rest) Q E ⟨h, g, d, t, os⟩ := by
  have f1 := tc_lookup
  have f2 := tc_bind (.ref 59)
  have hT : (⟨h, g, d, t, os⟩ : Shared).TypeIs (.ref 59) "type" := ⟨_, hC, rfl⟩
  refine wpAny_call (codeAny_of_tree ?_)
  show wpAny _ _ (callAny (.ref 59) _) _ _ _
  repeat (any_goals (first | assumption | with_reducible refine wpAny_loadPart_at hC ?_ | wp_step))
  refine ⟨rfl, ?_⟩
  exact codeAny_call_builtin_at (Code.quiet_builtin _ (by decide +kernel)) entry_typeCall (wpAny_check_type_call_sub hC (ff_type_call hC hn hn0 hP hnP hi hfI hfc hq hrest))
end
end Mine

namespace Mine
open PySem.Calls Builtin Builtin.ObjectAttr
abbrev excO (t : Addr) : Obj := { cls := .ref 59, data := .fields #[.ref t, .none, .none, .none, .bool false, .none] }
abbrev excD (t dx : Addr) : Obj := { cls := .ref 59, dict := some dx, data := .fields #[.ref t, .none, .none, .none, .bool false, .none] }

section
variable {prog : Program} {w : World} {A : Around} {E : Value → Shared → Prop} {s : Shared} {K : Frag} {x C L : Addr} {h₀ : Heap} {m : Str → Option Value} {news : List (Addr × Obj)} {R : Result → Shared → Prop}

theorem ff_refuse (self : Value) : refuseLoop self "__setattr__" [.ref 59, .ref 46, .type "Exception", .type "BaseException", .type "object"] = pure () := by
  rw [refuseLoop_ref, refuseLoop_ref]; exact PySem.F.store_Exception.passes self

theorem ff_open {ox : Obj} {cd : ClassData} {name : Str} {tk : Tok} {v : Value} (X : K.In s.heap) (hx : s.heap.get? x = some ox) (hcx : ox.cls = .ref 59)
    (hc : clsIn K 59 = some cd) (hm : cd.mro = [.ref 59, .ref 46, .type "Exception", .type "BaseException", .type "object"]) (ha : findIn K (.ref 59) name = some none)
    (h : wpAny (model prog w) A.in1 (storeInOwnDict (.ref x) (.ref 59) (.str name tk) name v false)
      (fun fin s' => match fin with | .done f => R (.ok f) s' | .again c' => c'.quiet = true ∧ codeAny (model prog w) A c' R s') (fun e s' => R (.error e) s') s) :
    codeAny (model prog w) A (.call (.builtin "object.__setattr__") ⟨[.ref x, .str name tk, v], []⟩) R s := by
  have SF := PySem.F.store_object
  have ty : Looks (model prog w) s.heap (typeOf (.ref x)) (.ref 59) := by
    have := (Looks.ld (M := model prog w) (part := none) hx)
    rw [← hcx]
    exact this.andThen .now
  have sub : Looks (model prog w) s.heap (isInstance (.ref x) (.type "object")) true := ty.andThen (looks_mroIn X (by unfold mroIn; rw [hc, Option.bind_some, hm]; rfl))
  refine codeAny_call_builtin SF.slot.plain SF.entry (@check_slot (model prog w) _ _ s "object.__setattr__" "object" "__setattr__" (.ref x) [.str name tk, v] [] _ SF.kind SF.split sub (SF.args (.ref x) (.str name tk) v) ?_)
  have hmr : Looks (model prog w) s.heap (mroOf (.ref 59)) cd.mro := (looks_clsIn X hc).andThen .now
  rw [osa_eq, refuse_eq]
  refine wpAny_bind (wpAny_bind (ty.here (wpAny_bind (hmr.here ?_))))
  rw [hm, ff_refuse]
  refine wpAny_pure (wpAny_bind (ty.here (wpAny_bind ((looks_findIn X ha).here (wpAny_bind (wpAny_pure ?_))))))
  exact h

theorem ff_plain {ox : Obj} {name : Str} {v : Value} {Q : Unit → Shared → Prop} (X : K.In s.heap) (hx : s.heap.get? x = some ox) (hcx : ox.cls = .ref 59)
    (hs : findIn K (.ref 59) "__setattr__" = some (some (.builtin "object.__setattr__")))
    (h : codeAny (model prog w) A (.call (.builtin "object.__setattr__") ⟨[.ref x, .str name s.toks, v], []⟩) (fun r s' => match r with | .ok (.ret _) => Q () s' | .ok _ => False | .error e => E e s') { s with toks := s.toks + 1 }) :
    wpAny (model prog w) A (setAttr (.ref x) name v) Q E s := by
  have ty : Looks (model prog w) s.heap (typeOf (.ref x)) (.ref 59) := by
    have := (Looks.ld (M := model prog w) (part := none) hx)
    rw [← hcx]
    exact this.andThen .now
  refine wpAny_bind (wpAny_mkText (wpAny_bind (wpAny_bind (wpAny_bind (ty _ _ _ _ (fun _ _ e => e) (looks_findIn X hs _ _ _ _ (fun _ _ e => e) (wpAny_holding ?_)))))))
  rw [PySem.F.store_object.slot.bind]
  refine wpAny_bind (wpAny_pure (wpAny_bind (wpAny_call (codeAny_mono h fun r s' z => ?_))))
  rcases r with e | (v | _ | _ | _) <;> first | exact z | exact wpAny_pure (wpAny_pure z)

/-- a field stored into an exception that has a dict already -/
theorem ff_set2 {t dx : Addr} {cd : ClassData} {name : Str} {v : Value} {es : List DictEntry} {n : Nat} {Q : Unit → Shared → Prop} (F : Fr h₀ L s.heap m) (N : News h₀ L s.heap ((x, excD t dx) :: (dx, dictOf es n) :: news)) (X : K.In s.heap)
    (hc : clsIn K 59 = some cd) (hm : cd.mro = [.ref 59, .ref 46, .type "Exception", .type "BaseException", .type "object"]) (hdict : cd.hasDict = true) (ha : findIn K (.ref 59) name = some none)
    (hs : findIn K (.ref 59) "__setattr__" = some (some (.builtin "object.__setattr__")))
    (hl : (getL name es).isSome = true) (h1 : x ≠ dx) (h2 : ∀ p ∈ news, p.1 ≠ dx) (hz : (putL name (PyData.keyHash w.params name) (.str name (s.toks + 1)) v es).length ≤ 1000)
    (h : ∀ h' es' n', Fr h₀ L h' m → News h₀ L h' ((x, excD t dx) :: (dx, dictOf es' n') :: news) → Q () { s with heap := h', toks := s.toks + 2 }) :
    wpAny (model prog w) A (setAttr (.ref x) name v) Q E s := by
  have hx := (N _ (.head _)).1
  refine ff_plain X hx rfl hs ?_
  refine ff_open (s := { s with toks := s.toks + 1 }) X hx rfl hc hm ha ?_
  have e := putName_dict name (PyData.keyHash w.params name) (.str name (s.toks + 1)) v es n
  obtain ⟨U1, U2⟩ := news_upd (pre := [(x, excD t dx)]) (d := dx) (f := Obj.putName name (PyData.keyHash w.params name) (.str name (s.toks + 1)) v) F N (fun p hp => by rw [List.mem_singleton.mp hp]; exact h1) h2 e rfl
  have D := (N (dx, dictOf es n) (by simp)).1
  have D' := (U2 _ (List.Mem.tail _ (List.Mem.head _))).1
  refine wpAny_bind (wpAny_pure (wpAny_bind (wpAny_bind (wpAny_loadPart hx (wpAny_bind (looks_clsIn X hc _ _ _ _ (fun _ _ e => e) ?_))))))
  rw [hdict]
  refine wpAny_pure (a := some dx) (wpAny_bind (wpAny_pure (wpAny_bind ?_)))
  unfold nsSet
  refine wpAny_bind (wpAny_bind (wpAny_askSetting (wpAny_pure (wpAny_bind (wpAny_mkText (wpAny_bind (wpAny_loadPart D ?_)))))))
  dsimp only
  have c : (!es.toArray.any (·.key.isStr name) && es.toArray.any (·.refKey)) = false := by
    unfold getL at hl
    split at hl
    · rename_i en he
      rw [List.any_toArray, List.any_eq_true.mpr ⟨en, List.mem_of_find?_eq_some he, List.find?_some he⟩]; rfl
    · split at hl
      · cases hl
      · rename_i z; rw [Bool.not_eq_true] at z; rw [List.any_toArray, List.any_toArray, z, Bool.and_false]
  rw [aRefKeyMayBeTheName_at, c]
  refine wpAny_updatePart D ?_
  refine wpAny_bind (wpAny_lookBehind D' (pastItsLine_dict (by rw [List.size_toArray, sizeLine_eq]; omega)) ?_)
  exact wpAny_pure (h _ _ _ U1 U2)

/-- the first field stored into an exception: its dict is made -/
theorem ff_set1 {t : Addr} {cd : ClassData} {name : Str} {v : Value} {Q : Unit → Shared → Prop} (F : Fr h₀ L s.heap m) (N : News h₀ L s.heap ((x, excO t) :: news)) (X : K.In s.heap)
    (hc : clsIn K 59 = some cd) (hm : cd.mro = [.ref 59, .ref 46, .type "Exception", .type "BaseException", .type "object"]) (hdict : cd.hasDict = true) (ha : findIn K (.ref 59) name = some none)
    (hs : findIn K (.ref 59) "__setattr__" = some (some (.builtin "object.__setattr__"))) (h1 : ∀ p ∈ news, p.1 ≠ x)
    (h : ∀ dx h', Fr h₀ L h' m → News h₀ L h' ((x, excD t dx) :: (dx, dictOf [⟨PyData.keyHash w.params name, .str name (s.toks + 1), v⟩] 1) :: news) → (∀ p ∈ news, p.1 < dx) → x < dx → Q () { s with heap := h', toks := s.toks + 2 }) :
    wpAny (model prog w) A (setAttr (.ref x) name v) Q E s := by
  have hx := (N _ (.head _)).1
  have Nr : News h₀ L s.heap news := fun p hp => N p (.tail _ hp)
  have lt1 : ∀ p ∈ news, p.1 < s.heap.objs.size := fun p hp => Heap.lt_size (Nr p hp).1
  have lt2 : x < s.heap.objs.size := Heap.lt_size hx
  refine ff_plain X hx rfl hs ?_
  refine ff_open (s := { s with toks := s.toks + 1 }) X hx rfl hc hm ha ?_
  have F1 := F.push (dictOf [] 0)
  have N1 := N.push F (dictOf [] 0)
  obtain ⟨F2, N2⟩ := news_upd (pre := [(s.heap.objs.size, dictOf [] 0)]) (d := x) (o := excO t) (o' := excD t s.heap.objs.size) (f := fun o => { o with dict := some s.heap.objs.size }) F1 N1 (fun p hp => by rw [List.mem_singleton.mp hp]; exact Nat.ne_of_gt lt2) h1 rfl rfl
  have e := putName_dict name (PyData.keyHash w.params name) (.str name (s.toks + 1)) v [] 0
  obtain ⟨F3, N3⟩ := news_upd (pre := []) (d := s.heap.objs.size) (f := Obj.putName name (PyData.keyHash w.params name) (.str name (s.toks + 1)) v) F2 N2 (fun p hp => nomatch hp) (fun p hp => by
    rcases List.mem_cons.mp hp with rfl | hp
    · exact Nat.ne_of_lt lt2
    · exact Nat.ne_of_lt (lt1 p hp)) e rfl
  have D := (N2 _ (.head _)).1
  have D' := (N3 _ (.head _)).1
  have hx1 : (s.heap.push (dictOf [] 0)).get? x = some (excO t) := Heap.get?_push_of_some _ hx
  refine wpAny_bind (wpAny_pure (wpAny_bind (wpAny_bind (wpAny_loadPart hx (wpAny_bind (looks_clsIn X hc _ _ _ _ (fun _ _ e => e) ?_))))))
  rw [hdict]
  show wpAny _ _ (do
    let d ← alloc (dictOf [] 0)
    update x fun o => { o with dict := some d }
    pure (some d)) _ _ _
  refine wpAny_bind (wpAny_alloc (wpAny_bind (wpAny_update (o := excO t) hx1 (wpAny_pure ?_))))
  show wpAny _ _ (storeInDict s.heap.objs.size (.str name s.toks) name v) _ _ _
  unfold storeInDict newKeyGuard
  refine wpAny_bind (wpAny_pure (wpAny_bind ?_))
  unfold nsSet
  refine wpAny_bind (wpAny_bind (wpAny_askSetting (wpAny_pure (wpAny_bind (wpAny_mkText (wpAny_bind (wpAny_loadPart D ?_)))))))
  dsimp only
  have c : (!([] : List DictEntry).toArray.any (·.key.isStr name) && ([] : List DictEntry).toArray.any (·.refKey)) = false := by simp
  rw [aRefKeyMayBeTheName_at, c]
  refine wpAny_updatePart D ?_
  refine wpAny_bind (wpAny_lookBehind D' (pastItsLine_dict (by rw [List.size_toArray, sizeLine_eq]; exact Nat.le_of_ble_eq_true rfl)) ?_)
  refine wpAny_pure (h _ _ F3 (fun p hp => ?_) lt1 lt2)
  rcases List.mem_cons.mp hp with rfl | hp
  · exact N3 _ (.tail _ (.head _))
  · rcases List.mem_cons.mp hp with rfl | hp
    · exact N3 _ (.head _)
    · exact N3 _ (.tail _ (.tail _ hp))
end
end Mine

namespace Mine
noncomputable abbrev LO : List Str := looseW hd.view_39 [Str.ofString "PaperError", Str.ofString "Sizes"]
local macro_rules | `(tactic| k_mem) => `(tactic| assumption)
theorem meta_Exception : typeOf (.type "Exception") = pure (.type "type") := by kernel_rfl
local macro_rules | `(tactic| walk_at "getMethod type:Exception") => `(tactic| (k_here; refine' method_type ?F ?X ?m (by decide +kernel) ?e ?h ?_; (case F => k_asm); (case X => k_asm); (case m => exact meta_Exception); (case e => k_dflt k_is); (case h => k_handed)))

section
variable {prog : Program} {w : World} {A : Around} {E : Value → Shared → Prop} {h₀ : Heap} {L : Addr} {m : Str → Option Value} {news : List (Addr × Obj)}
variable {nm q : Str} {N : Addr} {bs : List Value} {hdct : Bool} {sn : List Str} {sub : List Value} {ab : Bool} {col : Option Bool} {dd : Option Addr} {k0 k1 k2 k3 k5 : Option Value}

theorem News.sub' {h : Heap} {l l' : List (Addr × Obj)} (N : News h₀ L h l) (k : ∀ p ∈ l', p ∈ l) : News h₀ L h l' := fun p hp => N p (k p hp)

theorem ff_check_init {M : Model} {h : Heap} {g : Array GenState} {d : Drawn} {t : Nat} {os : OsState} {e : Addr} {oe : Obj} {rest : List Value} {Q : Unit → Shared → Prop}
    (hC : h.get? 59 = some (excClassObj nm q 59 N bs ffTail hdct sn sub ab col dd k0 k1 k2 k3 k5 "Exception.__new__")) (he : h.get? e = some oe) (hcls : oe.cls = .ref 59) (hq : Q () ⟨h, g, d, t, os⟩) :
    wpAny M A (checkBuiltinCall "Exception.__init__" ⟨.ref e :: rest, []⟩) Q E ⟨h, g, d, t, os⟩ := by
  have F := PySem.F.excBase_Exception
  have hcB : (Value.ref 59 :: ffTail).contains (.type "Exception") = true := by decide
  have hshort := F.noStar
  simp only [checkBuiltinCall, F.initKind, F.initSplit, F.initRow]
  repeat (first | (with_reducible refine wpAny_loadPart_at he ?_; rw [hcls]) | with_reducible refine wpAny_loadPart_at hC ?_ | (with_reducible refine wpAny_isSubtype_exc hC ?_; rw [hcB]) | wp_step)
  refine wpAny_onRaise ?_
  rw [show ∀ (a b : String) (n : Nat), Bind.check ⟨.positional, "*", "Exception", .self, [⟨"args", .varPos, false⟩]⟩ a b n (List.map (fun x => x.fst) ({ pos := Value.ref e :: rest } : Args).kw) = pure () from
    fun a b n => check_star_args _ _ _ _ _ _]
  exact wpAny_pure hq

theorem ff_init {s : Shared} {e t : Addr} {what : Value} {Q : Value → Shared → Prop} (F : Fr h₀ L s.heap m) (Nw : News h₀ L s.heap ((e, excO t) :: news)) (hne : ∀ p ∈ news, p.1 ≠ e)
    (hC : s.heap.get? 59 = some (excClassObj nm q 59 N bs ffTail hdct sn sub ab col dd k0 k1 k2 k3 k5 "Exception.__new__"))
    (h : ∀ t' h', Fr h₀ L h' m → News h₀ L h' ((e, excO t') :: (t', tupO [what]) :: news) → (∀ p ∈ news, p.1 < t') → e < t' → Q .none { s with heap := h' }) :
    wpAny (model prog w) A (call (.builtin "Exception.__init__") [.ref e, what]) Q E s := by
  have EF := PySem.F.excBase_Exception
  have hget := (Nw _ (.head _)).1
  have Nr : News h₀ L s.heap news := fun p hp => Nw p (.tail _ hp)
  have lt1 : ∀ p ∈ news, p.1 < s.heap.objs.size := fun p hp => Heap.lt_size (Nr p hp).1
  have lt2 : e < s.heap.objs.size := Heap.lt_size hget
  have F1 := F.push (tupO [what])
  have N1 := Nw.push F (tupO [what])
  have key := fun (f : Obj → Obj) (hf : f (excO t) = excO s.heap.objs.size) => news_upd (pre := [(s.heap.objs.size, tupO [what])]) (d := e) (o := excO t) (o' := excO s.heap.objs.size) (f := f) F1 N1 (fun p hp => by rw [List.mem_singleton.mp hp]; exact Nat.ne_of_gt lt2) hne hf rfl
  obtain ⟨hp, g, d, tk, os⟩ := s
  refine wpAny_call (codeAny_call_builtin EF.init.plain EF.initEntry (ff_check_init hC hget rfl ?_))
  wp_walk
  refine h _ _ ?F2 ?N2 lt1 lt2
  case F2 => exact (key _ rfl).1
  case N2 =>
    refine News.sub' (key _ rfl).2 (fun p hp => ?_)
    rcases List.mem_cons.mp hp with rfl | hp
    · exact .tail _ (.head _)
    · rcases List.mem_cons.mp hp with rfl | hp
      · exact .head _
      · exact .tail _ (.tail _ hp)
end


set_option maxHeartbeats 8000000 in
/-- PaperError.__init__ upon a fresh exception -/
theorem init_call {w : World} {A₀ A : Around} {base h₀ : Heap} {outer : List Env} {env : Env} {L : Addr} {m mg mb : Str → Option Value} {mean : ExcName → Option Value} {news : List (Addr × Obj)} {s : Shared} {R : Result → Shared → Prop}
  (B : Below A₀ base outer h₀) (F : Fr h₀ L s.heap m) (X : (hd.heap_39 w.params).In h₀) (T : Top hd.view_39 LO mean mg mb h₀)
  (hA : A.frames = some (env :: outer)) (hf : env.frame = some L) (hke : env.scope.kind = .function) (hroom : A.depth < 900)
  {e t : Addr} {what : Value} (N : News h₀ L s.heap ((e, excO t) :: news)) (l2 : ∀ p ∈ news, p.1 ≠ e)
  (h : ∀ t' dx h' tk, Fr h₀ L h' m → News h₀ L h' ((e, excD t' dx) :: news) → R (.ok (.ret .none)) { s with heap := h', toks := tk })
  : codeAny (model PySem.Challenge.rw_og0129_01.row.prog w) A (.call (.ref 36) ⟨[.ref e, what], []⟩) R s := by
  revert X
  w_top off
  k_fill
  intro X
  (refine' code_def B F X N T hA hf hke ?k6 ?k7 ?k8 ?k9 ?kB ?_ ?c2 ?c3 ?c4 ?c5; (case k6 => k_is); (case k7 => k_is); (case k8 => exact Nat.lt_trans hroom (by decide)); (case k9 => first | exact BindsTo.of_eq rfl | exact binds_K (by k_in) rfl (by k_is) rfl rfl rfl | fail "k_enter: no rule for these arguments"); (case c5 => decide); (case kB => exact locs rfl); (case c2 => exact rfl); (case c3 => exact rfl); (case c4 => exact rfl); k_whole; intro g' L' h' FG' F' N' B' X' T'; (try dsimp only); (try k_lift B'); (try k_fold))
  obtain ⟨cd, hcl, hcm, hcd⟩ : ∃ cd, clsIn (hd.heap_39 w.params) 59 = some cd ∧ cd.mro = [.ref 59, .ref 46, .type "Exception", .type "BaseException", .type "object"] ∧ cd.hasDict = true := ⟨_, rfl, rfl, rfl⟩
  have hs : findIn (hd.heap_39 w.params) (.ref 59) "__setattr__" = some (some (.builtin "object.__setattr__")) := by k_is
  have ha1 : findIn (hd.heap_39 w.params) (.ref 59) "what" = some none := by k_is
  have ha2 : findIn (hd.heap_39 w.params) (.ref 59) "at" = some none := by k_is
  iterate 11 walk1
  refine' ff_init ?F ?N ?ne ?C ?_
  case F => k_asm
  case N => k_asm
  case C => exact (Frag.In.keeps X' (Fr.keep (by k_asm))) 59 _ rfl
  case ne => exact l2
  intro t' h' F' N' l1' l2'
  k_sweep
  have N1 := News.sub' N' (l' := (e, excO t') :: news) (fun p hp => by
    rcases List.mem_cons.mp hp with rfl | hp
    · exact .head _
    · exact .tail _ (.tail _ hp))
  clear N'
  iterate 4 walk1
  refine ff_set1 F' N1 (Frag.In.keeps X' (Fr.keep F')) hcl hcm hcd ha1 hs l2 ?_
  intro dx h'' F' N' l3 l4
  k_sweep
  iterate 4 walk1
  refine ff_set2 F' N' (Frag.In.keeps X' (Fr.keep F')) hcl hcm hcd ha2 hs rfl (Nat.ne_of_lt l4) (fun p hp => Nat.ne_of_lt (l3 p hp)) (Nat.le_of_ble_eq_true rfl) ?_
  intro h3 es n F' N'
  k_sweep
  dsimp only
  iterate 2 walk1
  k_unfold
  dsimp only
  walk1
  exact h t' dx h3 _ (by k_asm) (News.sub' (by k_asm) (l := (e, excD t' dx) :: (dx, dictOf es n) :: news) (fun p hp => by
    rcases List.mem_cons.mp hp with rfl | hp
    · exact .head _
    · exact .tail _ (.tail _ hp)))
end Mine

namespace Mine

def FFAt (h : Heap) : Prop := ∃ nm q N bs hdct sn sub ab col dd k0 k1 k2 k3 k5, h.get? 59 = some (excClassObj nm q 59 N bs ffTail hdct sn sub ab col dd k0 k1 k2 k3 k5 "Exception.__new__")
theorem FFAt.of {w : World} {h : Heap} (X : (hd.heap_39 w.params).In h) : FFAt h := ⟨_, _, _, _, _, _, _, _, _, _, _, _, _, _, _, X 59 _ rfl⟩

section
variable {M : Model} {A : Around} {E : Value → Shared → Prop} {s : Shared} {env : Env}

theorem ff_raiseStmt {x : Sem Value} {Q : Flow → Shared → Prop} (hh : A.handled = none)
    (h : wpAny M A x (fun v s₁ => ∃ e t dx, v = .ref e ∧ FFAt s₁.heap ∧
      s₁.heap.get? e = some (excD t dx) ∧ E (.ref e) s₁) E s) :
    wpAny M A (raiseStmt env (some x) none) Q E s := by
  have hcB : (Value.ref 59 :: ffTail).contains (.type "BaseException") = true := by decide
  unfold raiseStmt
  refine wpAny_bind (wpAny_mono h (fun v s₁ h₁ => ?_) fun _ _ x => x)
  obtain ⟨e, t, dx, rfl, ⟨nm, q, N, bs, hdct, sn, sub, ab, col, dd, k0, k1, k2, k3, k5, hC⟩, he, hE⟩ := h₁
  obtain ⟨hp, g, d, tk, os⟩ := s₁
  repeat (first | with_reducible refine wpAny_loadPart_at he ?_ | with_reducible refine wpAny_loadPart_at hC ?_ | (with_reducible refine wpAny_isSubtype_exc hC ?_; rw [hcB]) | wp_step)
  exact wpAny_raiseNew_none hh hE

theorem ff_Raise {x : Expr} {pos : Pos} {Q : Flow → Shared → Prop} (hh : A.handled = none)
    (h : wpAny M A (eval x env) (fun v s₁ => ∃ e t dx, v = .ref e ∧ FFAt s₁.heap ∧
      s₁.heap.get? e = some (excD t dx) ∧ E (.ref e) s₁) E s) : wpAny M A (exec (.Raise (some x) none pos) env) Q E s := by
  rw [arm_exec_Raise]
  refine wpAny_bind (wpAny_standAt ?_)
  exact ff_raiseStmt hh (wpAny_bind (wpAny_mono h (fun v s₁ h₁ => wpAny_bind (wpAny_standAt (wpAny_pure h₁))) fun _ _ x => x))
end

section
variable {M : Model} {A : Around} {E : Value → Shared → Prop} {s' : Shared} {base g : Heap} {outer : List Env} {L a e t dx : Addr} {m : Str → Option Value} {name : Str} {scope : Scope} {cd : Value} {Q : Unit → Shared → Prop} {news : List (Addr × Obj)}
/-- a fresh FilterFault leaves the frame that raised it -/
theorem ff_leave (K : Below A base outer g) (F : Fr g L s'.heap m) (N : News g L s'.heap ((e, excD t dx) :: news)) (hne : ∀ p ∈ news, p.1 ≠ e)
    (hQ : ∀ h', RaisedN base outer e (.ref 59) news h' → g.UpToSlots h' → Q () { s' with heap := h' }) (hk : scope.kind = .function := by rfl) :
    wpAny M (A.deeper (envOf name scope L a cd)) (leaving (envOf name scope L a cd) (.ref e)) Q E s' := by
  have K' := K.push (name := name) (a := a) (cd := cd) F hk
  have he := (N _ (.head _)).1
  have heg := (N _ (.head _)).2.2
  let as := e :: (envOf name scope L a cd :: outer).filterMap (·.frame)
  have hin : ∀ env ∈ (envOf name scope L a cd :: outer), ∀ b, env.frame = some b → b ∈ as := fun env he b hb => .tail _ (List.mem_filterMap.mpr ⟨env, he, hb⟩)
  have fr : ∀ b ∈ (envOf name scope L a cd :: outer).filterMap (·.frame), base.get? b = none := fun b hm => (K'.frames.mem hm).1
  have st : base.StaysIn (hideAll s'.heap as) := fun b o q => hideAll_get _ (K'.stays b o q) fun hm => by
    rcases List.mem_cons.mp hm with rfl | hm
    · have := K.stays _ _ q; rw [heg] at this; cases this
    · rw [fr b hm] at q; cases q
  have hl : ∀ q ∈ news, (hideAll s'.heap as).get? q.1 = some q.2 ∧ base.get? q.1 = none := fun q hq => by
    have Nq := N q (.tail _ hq)
    refine ⟨hideAll_get _ Nq.1 fun hm => ?_, fresh_of_stays K.stays Nq.2.2⟩
    rcases List.mem_cons.mp hm with q1 | hm
    · exact hne q hq q1
    · obtain ⟨env, he, hf⟩ := List.mem_filterMap.mp hm
      rcases List.mem_cons.mp he with rfl | he
      · exact Nq.2.1 (Option.some.inj hf).symm
      · obtain ⟨o, ho, _⟩ := (K.frames.mem (List.mem_filterMap.mpr ⟨env, he, hf⟩)).2
        rw [Nq.2.2] at ho; cases ho
  have hen : (hideAll s'.heap as).get? e = none := hideAll_none _ (.head _)
  refine wpAny_leaving_firstW (a0 := .ref t) K'.stack (funFrames_hide K'.frames hin) rfl he (fun b o hb => of_hideAll _ hb) hen rfl rfl rfl fun h' hL => ?_
  obtain ⟨k1, ⟨_, _, k2⟩, k3, k4⟩ := hL
  exact hQ h' ⟨_, .ref t, st, hl, k1, hen, k2, k3⟩ ((Heap.UpToSlots.of_keeps F.keep).trans k4)
end
end Mine

namespace Mine
local macro_rules | `(tactic| k_mem) => `(tactic| assumption)

theorem ns_some_of {K : Frag} {h : Heap} {N : Addr} {mg : Str → Option Value} {n : Str} {v : Value} (X : K.In h) (G : h.Ns N mg) (e : nsIn K N n = some (some v)) : mg n = some v := by
  obtain ⟨o, es, ep, ho, hd, _, hf⟩ := G
  unfold nsIn at e
  split at e
  · rename_i c d es' n' sl q
    have := X _ _ q
    rw [ho] at this
    cases this
    cases hd
    split at e
    · rename_i en he
      cases e
      rw [← hf]
      unfold nsFind findBy
      rw [← Array.find?_toList, he]
      rfl
    · split at e <;> cases e
  · cases e

set_option maxHeartbeats 8000000 in
theorem raise_ff {w : World} {A : Around} {base g : Heap} {outer : List Env} {L a : Addr} {m mg mb : Str → Option Value} {mean : ExcName → Option Value} {news : List (Addr × Obj)} {s : Shared} {Q : Flow → Shared → Prop} {E : Value → Shared → Prop}
  {name : Str} {scope : Scope} {cd : Value} {np cp cpos pos : Pos} {msg : Str} {kk : Nat}
  (B : Below A base outer g) (F : Fr g L s.heap m) (X : (hd.heap_39 w.params).In g) (N : News g L s.heap news) (T : Top hd.view_39 LO mean mg mb g)
  (hroom : A.depth < 850) (hh : A.handled = none) (hk : scope.kind = .function) (hx : (envOf name scope L a cd).kindOf (Str.ofString "FilterFault") = some .globalImplicit)
  (hE : ∀ e h' tk, RaisedN base outer e (.ref 59) news h' → g.UpToSlots h' → E (.ref e) { s with heap := h', toks := tk })
  : wpAny (model PySem.Challenge.rw_og0129_01.row.prog w) (A.deeper (envOf name scope L a cd)) (exec (.Raise (some (.Call (.Name (Str.ofString "FilterFault") np) [.Constant (.str msg) kk cp] [] cpos)) none pos) (envOf name scope L a cd)) Q
      (fun e s' => wpAny (model PySem.Challenge.rw_og0129_01.row.prog w) (A.deeper (envOf name scope L a cd)) (leaving (envOf name scope L a cd) e) (fun _ s'' => E e s'') (fun e' s'' => E e' s'') s') s := by
  revert X
  w_top off
  k_fill
  intro X
  refine ff_Raise hh ?_
  refine wpAny_Call_ofName ?_
  refine name_K F X (topRead_of T) (by k_is) ?_ hk hx (by decide)
  refine callWith_K X (by k_is) ?_
  iterate 3 walk1
  have Xh := X.keeps F.keep
  have hns : s.heap.Ns 58 (s.heap.nsMap 58) := .of_isNs (isNs_of_in Xh (by kernel_rfl : nsOkIn (hd.heap_39 w.params) 58 = true))
  have hn0 : s.heap.nsMap 58 "__init__" = none := nsMap_none_of_in Xh (by kernel_rfl) (by kernel_rfl)
  have hnsP : s.heap.Ns 45 (s.heap.nsMap 45) := .of_isNs (isNs_of_in Xh (by kernel_rfl : nsOkIn (hd.heap_39 w.params) 45 = true))
  have hi : s.heap.nsMap 45 "__init__" = some (.ref 36) := ns_some_of Xh hnsP (by kernel_rfl)
  obtain ⟨nm, q, bs, hdct, sn, sub, ab, col, dd, k0, k1, k2, k3, k5, hC⟩ : ∃ nm q bs hdct sn sub ab col dd k0 k1 k2 k3 k5, s.heap.get? 59 = some (excClassObj nm q 59 58 bs ffTail hdct sn sub ab col dd k0 k1 k2 k3 k5 "Exception.__new__") := ⟨_, _, _, _, _, _, _, _, _, _, _, _, _, _, Xh 59 _ rfl⟩
  obtain ⟨c0, ddP, cdP, slP, hP, hPn⟩ : ∃ c0 ddP cdP slP, s.heap.get? 46 = some { cls := c0, dict := ddP, data := .cls cdP, slots := slP } ∧ cdP.ns = 45 := ⟨_, _, _, _, Xh 46 _ rfl, rfl⟩
  obtain ⟨oI, hfI, hfc⟩ : ∃ oI, s.heap.get? 36 = some oI ∧ oI.cls = .type "function" := ⟨_, Xh 36 _ rfl, rfl⟩
  have N1 := N.push F (tupO [Value.str msg s.toks])
  have F1 := F.push (tupO [Value.str msg s.toks])
  have N2 := N1.push F1 (excO s.heap.objs.size)
  have F2 := F1.push (excO s.heap.objs.size)
  rw [Heap.size_push] at N2
  have N3 := News.sub' N2 (l' := (s.heap.objs.size + 1, excO s.heap.objs.size) :: news) (fun p hp => by
    rcases List.mem_cons.mp hp with rfl | hp
    · exact .head _
    · exact .tail _ (.tail _ hp))
  have hne : ∀ p ∈ news, p.1 ≠ s.heap.objs.size + 1 := fun p hp => Nat.ne_of_lt (Nat.lt_succ_of_lt (Heap.lt_size (N p hp).1))
  refine ⟨Xh, ?_⟩
  refine ff_call (rest := [Value.str msg s.toks]) (mN := s.heap.nsMap 58) (mP := s.heap.nsMap 45) (fI := 36) hC hns hn0 hP (by rw [hPn]; exact hnsP) hi hfI hfc ?_ (by rw [sizeLine_eq]; show 1 ≤ _; decide)
  refine wpAny_call (init_call (A := (A.deeper (envOf name scope L a cd)).under (.builtin "type.__call__" ⟨.ref 59 :: [Value.str msg s.toks], []⟩)) B F2 X T (outer := outer) (env := envOf name scope L a cd) (Around.frames_deeper B.stack) rfl hk (by rw [depth_under_make, depth_deeper]; omega) N3 hne ?_)
  intro t' dx h' tk F' N'
  refine ⟨rfl, _, _, _, rfl, FFAt.of (X.keeps F'.keep), (N' _ (.head _)).1, ?_⟩
  refine ff_leave B F' N' hne ?_ hk
  intro h'' R U
  exact hE _ h'' _ R U
end Mine

namespace Mine

def TupI (news : List (Addr × Obj)) (v : Value) (ns : List Int) : Prop := ∃ a vs, v = .ref a ∧ (a, tupO vs) ∈ news ∧ IntsAre vs ns
def WordsAre (news : List (Addr × Obj)) (wv : List Value) (wss : List (List Int)) : Prop :=
  wv.length = wss.length ∧ ∀ (i : Nat) (v : Value), wv[i]? = some v → ∃ ws, wss[i]? = some ws ∧ TupI news v ws

def wordOf (full : Int) (wss : List (List Int)) (code : Int) (bs : List Int) : Option (List Int) :=
  if code < 4 then some [code]
  else if code - 6 < wss.length then wss[(code - 6).toNat]?
  else if code - 6 = wss.length ∧ bs ≠ [] ∧ code < full then some (bs ++ bs.take 1)
  else none

structure SizesAt (news : List (Addr × Obj)) (xS dS : Addr) (es : List DictEntry) (n : Nat) (full : Int) : Prop where
  obj : (xS, instObj 86 dS) ∈ news
  dct : (dS, dictOf es n) ∈ news
  clear : ∃ t, getL (Str.ofString "clear") es = some (some (.int 4 t))
  fin : ∃ t, getL (Str.ofString "end") es = some (some (.int 5 t))
  first : ∃ t, getL (Str.ofString "first") es = some (some (.int 6 t))
  full : ∃ t, getL (Str.ofString "full") es = some (some (.int full t))

local macro_rules | `(tactic| k_mem) => `(tactic| assumption)
local macro_rules | `(tactic| k_get) => `(tactic| assumption)
local macro_rules | `(tactic| walk_at "call builtin:len") => `(tactic| (k_here; (with_reducible show wpAny _ _ (call (Value.builtin "len") [Value.ref _]) _ _ _); (refine' len_list (News.isList ?N ?m) ?f ?_); (case N => k_asm); (case m => k_mem); (case f => (rw [List.size_toArray]; omega)); k_whole; (try simp only [List.size_toArray])))

set_option maxHeartbeats 8000000 in
theorem word_of_call {w : World} {A₀ A : Around} {base h₀ : Heap} {outer : List Env} {env : Env} {L : Addr} {m mg mb : Str → Option Value} {mean : ExcName → Option Value} {news : List (Addr × Obj)} {s : Shared} {Q : Value → Shared → Prop} {E : Value → Shared → Prop}
  (B : Below A₀ base outer h₀) (F : Fr h₀ L s.heap m) (X : (hd.heap_39 w.params).In h₀) (N : News h₀ L s.heap news) (T : Top hd.view_39 LO mean mg mb h₀)
  (hA : A.frames = some (env :: outer)) (hf : env.frame = some L) (hke : env.scope.kind = .function) (hroom : A.depth < 800) (hh : A.handled = none)
  {xS dS aW aB : Addr} {es : List DictEntry} {n : Nat} {tc : Tok} {full code : Int} {wv bv : List Value} {cw : Nat} {wss : List (List Int)} {bs : List Int}
  (S : SizesAt news xS dS es n full)
  (hw : (aW, listOf wv.toArray cw) ∈ news) (hws : WordsAre news wv wss) (hwl : wss.length ≤ 100)
  (hb : (aB, tupO bv) ∈ news) (hbi : IntsAre bv bs) (hbl : bs.length ≤ 100) (hc : code < 4 ∨ 6 ≤ code) (hc2 : code < 1000)
  (hQ : ∀ v ws h' tk made, wordOf full wss code bs = some ws → Fr h₀ L h' m → News h₀ L h' (made ++ news) → TupI (made ++ news) v ws → Q v { s with heap := h', toks := tk })
  (hE : ∀ e g h' tk, wordOf full wss code bs = none → Fr h₀ L g m → g.UpToSlots h' → RaisedN base (env :: outer) e (.ref 59) news h' → E (.ref e) { s with heap := h', toks := tk })
  : wpAny (model PySem.Challenge.rw_og0129_01.row.prog w) A (call (.ref 104) [.ref xS, .ref aW, .int code tc, .ref aB]) Q E s := by
  revert X
  w_top off
  k_fill
  intro X
  obtain ⟨s1, s2, ⟨t1, s3⟩, ⟨t2, s4⟩, ⟨t3, s5⟩, ⟨t4, s6⟩⟩ := S
  obtain ⟨hwl', hws'⟩ := hws
  refine wpAny_call ?_
  (refine' code_def B F X N T hA hf hke ?k6 ?k7 ?k8 ?k9 ?kB ?_ ?c2 ?c3 ?c4 ?c5; (case k6 => k_is); (case k7 => k_is); (case k8 => exact Nat.lt_trans hroom (by decide)); (case k9 => first | exact BindsTo.of_eq rfl | exact binds_K (by k_in) rfl (by k_is) rfl rfl rfl | fail "k_enter: no rule for these arguments"); (case c5 => decide); (case kB => exact locs rfl); (case c2 => exact rfl); (case c3 => exact rfl); (case c4 => exact rfl); k_whole; intro g' L' h' FG' F' N' B' X' T'; (try dsimp only); (try k_lift B'); (try k_fold))
  have raising : ∀ (m' : Str → Option Value) (hp : Heap) (tk : Nat), wordOf full wss code bs = none → Fr g' L' hp m' → News g' L' hp news → ∀ (np cp cpos pos : Pos) (Q' : Flow → Shared → Prop), wpAny (model PySem.Challenge.rw_og0129_01.row.prog w) (A.deeper (envOf (Str.ofString "word_of") _ L' 104 (.ref 103)))
      (exec (.Raise (some (.Call (.Name (Str.ofString "FilterFault") np) [.Constant (.str (Str.ofString "a code that the table does not have")) 0 cp] [] cpos)) none pos) (envOf (Str.ofString "word_of") _ L' 104 (.ref 103))) Q' ek { s with heap := hp, toks := tk } :=
    fun m' hp tk hnone F1 N1 np cp cpos pos Q' => raise_ff (s := { s with heap := hp, toks := tk }) B' F1 X' N1 T' (by omega) hh rfl rfl (fun e h' tk R U => hE e g' h' tk hnone FG' U R)
  by_cases hlt : code < 4
  · repeat' (first | (k_unfold; (try dsimp only)) | walk1 | (dsimp only; walk1) | fail "no step")
    (with_reducible rename Fr h₀ L _ m => kF)
    (with_reducible rename News h₀ L _ _ => kN)
    refine hQ _ [code] _ _ [(_, tupO _)] (by unfold wordOf; rw [if_pos hlt]) kF kN ⟨_, _, rfl, .head _, .cons _ _ .nil⟩
  · repeat' (first | (k_unfold; (try dsimp only)) | walk1 | (dsimp only; walk1) | fail "no step")
    · (with_reducible rename News _ L' _ _ => nN)
      have hpl : code - 6 < (wv.length : Int) := by assumption
      have hk : (code - 6).toNat < wv.length := by omega
      obtain ⟨ws, hws1, hws2⟩ := hws' (code - 6).toNat wv[(code - 6).toNat] (by simp [hk])
      refine item_listL (News.isList nN hw) (by omega) (by omega) (x := wv[(code - 6).toNat]) (by simp [hk]) ?_
      walk1
      (with_reducible rename Fr h₀ L _ m => kF)
      (with_reducible rename News h₀ L _ _ => kN)
      refine hQ _ ws _ _ [] (by unfold wordOf; rw [if_neg hlt, if_pos (by omega)]; exact hws1) kF kN hws2
    · (with_reducible rename News _ L' _ _ => nN)
      have hpl : code - 6 = (wv.length : Int) := by assumption
      have hbl2 : bv.length ≤ 1000 := by have := hbi.length; omega
      refine ktl_truthyK nN hb hbl2 ?_
      by_cases hbe : bv = []
      · subst hbe
        have hbe' : bs = [] := by cases hbi; rfl
        rw [List.isEmpty_nil]
        repeat' (first | (k_unfold; (try dsimp only)) | walk1 | (dsimp only; walk1) | fail "no step")
        (with_reducible rename Fr _ L' _ _ => nF)
        (with_reducible rename News _ L' _ _ => nN)
        refine raising _ _ _ (by unfold wordOf; rw [if_neg hlt, if_neg (by omega), if_neg (by simp [hbe'])]) nF nN _ _ _ _ _
      · obtain ⟨b0, br, rfl⟩ := List.exists_cons_of_ne_nil hbe
        rw [List.isEmpty_cons]
        repeat' (first | (k_unfold; (try dsimp only)) | walk1 | (dsimp only; walk1) | fail "no step")
        · (with_reducible rename Fr _ L' _ _ => nF)
          (with_reducible rename News _ L' _ _ => nN)
          have hlf : code < full := by assumption
          cases hbi with
          | cons b0i b0t hbr =>
            rename_i bri
            refine slice_one nF nN hb (fun D hp made F1 N1 hD hlt1 => ?_) (by with_unfolding_all rfl) (by intro _; with_unfolding_all rfl)
            refine add_tuples F1 N1 (vs := Value.int b0i b0t :: br) (ws := [Value.int b0i b0t]) ⟨_, (N1 _ (List.mem_append_right _ hb)).1, rfl, _, rfl⟩ ⟨_, (N1 _ hD).1, rfl, _, rfl⟩ (fun q => absurd q (List.cons_ne_nil _ _)) (fun _ q => absurd q (List.cons_ne_nil _ _)) ?hmain ?hz
            case hz => (have := hbr.length; rw [sizeLine_eq]; simp only [List.length_cons, List.length_nil] at *; omega)
            intro _ _ h' F2 N2
            walk1
            (with_reducible rename Fr h₀ L _ m => kF)
            (with_reducible rename News h₀ L _ _ => kN)
            refine hQ _ (b0i :: bri ++ [b0i]) _ _ ((_, tupO _) :: made) ?_ kF kN ⟨_, _, rfl, .head _, ?_⟩
            · unfold wordOf; rw [if_neg hlt, if_neg (by omega), if_pos ⟨by omega, by simp, by omega⟩]; rfl
            · exact IntsAre.append (.cons _ _ hbr) (.cons _ _ .nil)
        · (with_reducible rename Fr _ L' _ _ => nF)
          (with_reducible rename News _ L' _ _ => nN)
          refine raising _ _ _ (by unfold wordOf; rw [if_neg hlt, if_neg (by omega), if_neg (by intro q; have q2 : ¬ code < full := (by assumption); exact q2 q.2.2)]) nF nN _ _ _ _ _
    · (with_reducible rename Fr _ L' _ _ => nF)
      (with_reducible rename News _ L' _ _ => nN)
      refine raising _ _ _ (by unfold wordOf; rw [if_neg hlt, if_neg (by omega), if_neg (by omega)]) nF nN _ _ _ _ _
end Mine

namespace Mine
local macro_rules | `(tactic| k_mem) => `(tactic| assumption)

/-- the way back of a callee: in good order, or behind a caught exception -/
def LeaveE (h₀ : Heap) (L : Addr) (m : Str → Option Value) (g : Heap) (R : Result → Shared → Prop) (v : Value) (s' : Shared) : Prop := LeaveK h₀ L m g R v s' ∨ R (.ok (.ret v)) s'

section
variable {prog : Program} {w : World} {A A₀ : Around} {s : Shared} {K : Frag} {L : Addr} {h₀ base : Heap} {m mg mb : Str → Option Value} {news : List (Addr × Obj)} {p : Program} {loose : List Str} {mean : ExcName → Option Value}
theorem code_defE {env : Env} {outer : List Env} {R : Result → Shared → Prop} {name qual : Str} {params : Arguments} {body : List Stmt} {scope : Scope} {dV kV doc pm cdv ct oc : Value} {an od : Option Addr} {osl : Array (Option Value)} {f : Addr} {args : Args} {binds : List (Str × Value)}
    (B : Below A₀ base outer h₀) (F : Fr h₀ L s.heap m) (X₀ : K.In h₀) (N : News h₀ L s.heap news) (T : Top p loose mean mg mb h₀) (hA : A.frames = some (env :: outer)) (hf : env.frame = some L) (hke : env.scope.kind = .function)
    (ho : K.lookup f = some ⟨oc, od, .func (fnOf name qual params body scope dV kV doc pm an cdv ct), osl⟩) (hcd : codeIn K cdv qual = true) (hroom : A.depth < recursionLimit)
    (hbind : BindsTo s (fnOf name qual params body scope dV kV doc pm an cdv ct) args binds) (hloc : ∀ y ∈ binds, scope.names.lookup y.1 = some .local)
    (h : ∀ g L' h₁, Fr h₀ L g m → Fr g L' h₁ (fun y => binds.reverse.lookup y) → News g L' h₁ news → Below A base (env :: outer) g → K.In g → Top p loose mean mg mb g →
      wpAny (model prog w) (A.deeper (envOf qual scope L' f cdv)) (execs body (envOf qual scope L' f cdv))
        (fun fl s' => LeaveE h₀ L m g R (match fl with | .ret v => v | _ => .none) s')
        (fun e s' => wpAny (model prog w) (A.deeper (envOf qual scope L' f cdv)) (leaving (envOf qual scope L' f cdv) e) (fun _ s'' => R (.error e) s'') (fun e' s'' => R (.error e') s'') s')
        { s with heap := h₁, toks := s.toks + binds.length })
    (hco : scope.isCoroutine = false) (hgen : scope.isGenerator = false) (hk : scope.kind = .function)
    (hcell : ∀ x ∈ scope.names, x.2 ≠ .cell) : codeAny (model prog w) A (.call (.ref f) args) R s := by
  obtain ⟨FG, BG, st, lv⟩ := groundX (R := R) B F N hA hf hke
  refine codeAny_call_def (fd := fnOf name qual params body scope dV kV doc pm an cdv ct) (body := body) (binds := binds) hroom ((X₀.keeps F.keep) _ _ ho) rfl (T.nolimit.keeps F.keep) (codeRec_of (X₀.keeps F.keep) hcd) rfl hbind hcell hloc (fun h₁ hns hk₁ => ?_) hco hgen hk
  exact wpAny_mono (h _ s.heap.objs.size h₁ FG ⟨hns, fun b o e => hk₁ b o (of_hideAll _ e), Nat.le_of_eq (hideAll_size _ _)⟩
    (fun p hp => ⟨hk₁ _ _ (N p hp).1, Nat.ne_of_lt (Heap.lt_size (N p hp).1), hideAll_none _ (List.mem_map_of_mem hp)⟩) BG (X₀.keeps st) (T.keeps st)) (fun fl s' hl => hl.elim (lv _ _) id) fun _ _ y => y
end

section
variable {prog : Program} {w : World} {A₀ : Around} {E : Value → Shared → Prop} {s' : Shared} {h₀ h : Heap} {outer : List Env} {env : Env} {L e : Addr} {m : Str → Option Value}
  {b₀ : Stmt} {suite : List Stmt} {pos np : Pos} {rest : List ExceptHandler} {Q : Flow → Shared → Prop} {news : List (Addr × Obj)} {x : Str}

theorem caught_ff (hst : A₀.frames = some outer) (hfr : env.frame = some L) (F : Fr h₀ L h m) (hsm : h.UpToSlots s'.heap) (R : RaisedN h₀ (env :: outer) e (.ref 59) news s'.heap)
    (hff : ∀ h₅, (∀ b o, h₀.get? b = some o → h₅.get? b = some o) → FFAt h₅)
    (hname : ∀ (A' : Around) (h₅ : Heap) (Q' : Value → Shared → Prop) (E' : Value → Shared → Prop), Fr h₀ L h₅ m → Q' (.ref 59) { s' with heap := h₅ } → wpAny (model prog w) A' (eval (.Name x np) env) Q' E' { s' with heap := h₅ })
    (k : ∀ h', h.UpToSlots h' → Fr h₀ L h' m → News h₀ L h' news → wpAny (model prog w) ((A₀.deeper env).mark (some (.ref e))) (execs (b₀ :: suite) env) Q E { s' with heap := h' })
    (hE : PassesOwnAt (model prog w) ((A₀.deeper env).mark (some (.ref e))) (A₀.deeper env) env E) :
    wpAny (model prog w) (A₀.deeper env) (noteFrame (.ref e) env)
      (fun _ s₂ => wpAny (model prog w) (A₀.deeper env) (setFlight (.ref e) none) (fun _ s₃ =>
        wpAny (model prog w) (A₀.deeper env) (handleBy (.ref e) env (.ExceptHandler (some (.Name x np)) none (b₀ :: suite) pos :: rest)) Q E s₃) E s₂) E s' := by
  obtain ⟨B, a0, hB, hl, hfl⟩ := R
  have hL : B.get? L = none := by
    obtain ⟨_, ⟨L', _, hf, hn', _⟩, _⟩ := hfl.2.2.1
    rw [hfr] at hf
    obtain rfl : L = L' := Option.some.inj hf
    exact hn'
  refine wpAny_looks_onW (Around.frames_deeper hst) hfr hfl fun h₄ hheld₄ hsm₄ => ?_
  refine wpAny_landsW hheld₄ fun h₅ hheld hsm₅' => ?_
  have hsm₅ := hsm₄.trans hsm₅'
  have hheld' := flyingW_base hB hheld
  have F₅ := F.of_stays hheld'.1 (hsm.trans hsm₅)
  obtain ⟨ob, hob, hobc⟩ := hheld'.there
  obtain ⟨nm, q, N, bs, hdct, sn, sub, ab, col, dd, k0, k1, k2, k3, k5, hC⟩ := hff h₅ F₅.keep
  refine wpAny_handleBy_cons (codeAny_handlers_test (hname _ h₅ _ _ F₅ ?_)) (by intro q; cases q)
  refine wpAny_excMatches_sub_self hC hob hobc (by decide) (codeAny_handlers_suite ?_)
  refine lands_againW hheld fun h₆ hfl₆ hsm₆ => ?_
  have sm₆ := (hsm.trans hsm₅).trans hsm₆
  have F₆ := F.of_stays (flyingW_base hB hfl₆).1 sm₆
  exact wpAny_passesOwnAt hE (k h₆ sm₆ F₆ fun q hq => ⟨hfl₆.1 _ _ (hl q hq).1, (fun z => by have := (hl q hq).1; rw [z, hL] at this; cases this), (hl q hq).2⟩)
end

set_option maxHeartbeats 8000000 in
theorem heard_call {w : World} {A₀ A : Around} {h₀ : Heap} {env : Env} {L : Addr} {m mg mb : Str → Option Value} {mean : ExcName → Option Value} {news : List (Addr × Obj)} {s : Shared} {Q : Value → Shared → Prop} {E : Value → Shared → Prop}
  (B : Below A₀ h₀ [] h₀) (F : Fr h₀ L s.heap m) (X : (hd.heap_39 w.params).In h₀) (N : News h₀ L s.heap news) (T : Top hd.view_39 LO mean mg mb h₀)
  (hA : A.frames = some [env]) (hf : env.frame = some L) (hke : env.scope.kind = .function) (hroom : A.depth < 700) (hh : A.handled = none)
  {xS dS aW aB : Addr} {es : List DictEntry} {n : Nat} {tc : Tok} {full code : Int} {wv bv : List Value} {cw : Nat} {wss : List (List Int)} {bs : List Int}
  (S : SizesAt news xS dS es n full)
  (hw : (aW, listOf wv.toArray cw) ∈ news) (hws : WordsAre news wv wss) (hwl : wss.length ≤ 100)
  (hb : (aB, tupO bv) ∈ news) (hbi : IntsAre bv bs) (hbl : bs.length ≤ 100) (hc : code < 4 ∨ 6 ≤ code) (hc2 : code < 1000)
  (hQ : ∀ v ws h' tk made, wordOf full wss code bs = some ws → Fr h₀ L h' m → News h₀ L h' (made ++ news) → TupI (made ++ news) v ws → Q v { s with heap := h', toks := tk })
  (hN : ∀ h' tk, wordOf full wss code bs = none → Fr h₀ L h' m → News h₀ L h' news → Q .none { s with heap := h', toks := tk })
  : wpAny (model PySem.Challenge.rw_og0129_01.row.prog w) A (call (.ref 125) [.ref xS, .ref aW, .int code tc, .ref aB]) Q E s := by
  revert X
  w_top off
  k_fill
  intro X
  refine wpAny_call ?_
  (refine' code_defE B F X N T hA hf hke ?k6 ?k7 ?k8 ?k9 ?kB ?_ ?c2 ?c3 ?c4 ?c5; (case k6 => k_is); (case k7 => k_is); (case k8 => exact Nat.lt_trans hroom (by decide)); (case k9 => first | exact BindsTo.of_eq rfl | exact binds_K (by k_in) rfl (by k_is) rfl rfl rfl | fail "k_enter: no rule for these arguments"); (case c5 => decide); (case kB => exact locs rfl); (case c2 => exact rfl); (case c3 => exact rfl); (case c4 => exact rfl); k_whole; intro g' L' h' FG' F' N' B' X' T'; (try dsimp only); (try k_lift B'))
  repeat' (first | (k_unfold; (try dsimp only)) | walk1 | (dsimp only; walk1) | fail "no step")
  refine word_of_call B' F' X' N' T' (env := envOf _ _ L' 125 (.ref 124)) (outer := [env]) (A := A.deeper (envOf _ _ L' 125 (.ref 124))) (Around.frames_deeper B'.stack) rfl rfl (by rw [depth_deeper]; omega) hh S hw hws hwl hb hbi hbl hc hc2 ?a ?b
  case a =>
    intro v ws h1 tk made hwo F1 N1 hv
    left
    exact leaveK_ F1 N1 fun kF kN => hQ v ws _ _ made hwo kF kN hv
  case b =>
    intro e g h1 tk hwo Fg sm R
    have hlt : h₀.objs.size ≤ L' := Nat.le_trans FG'.above (Nat.le_trans (Nat.le_of_lt FG'.ns.lt) F'.above)
    have Fg0 : Fr h₀ L' g _ := ⟨Fg.ns, fun b o e => Fg.keep b o (FG'.keep b o e), hlt⟩
    refine caught_ff (hA) rfl Fg0 sm R (fun h₅ hk => FFAt.of (X.keeps hk)) (fun _ h₅ Q' E' F5 hq => name_K F5 X (topRead_of T) (by k_is) hq rfl rfl (by decide)) ?_ (by passes_own)
    intro h6 sm6 F6 N6
    repeat' (first | (k_unfold; (try dsimp only)) | walk1 | (dsimp only; walk1) | fail "no step")
    right
    exact hN h6 _ hwo (FG'.of_stays F6.keep ((Heap.UpToSlots.of_keeps Fg.keep).trans sm6)) (fun p hp => ⟨(N6 p hp).1, (N p hp).2.1, (N p hp).2.2⟩)
end Mine

namespace Mine

def MutNext (h₀ : Heap) (L : Addr) (Jn : (Str → Option Value) → List (Addr × Obj) → Prop) (keep : List (Addr × Obj)) (s₁ s₂ : Shared) : Prop :=
  ∃ h' tk m' mt', s₂ = { s₁ with heap := h', toks := tk } ∧ Fr h₀ L h' m' ∧ News h₀ L h' (mt' ++ keep) ∧ (∀ p ∈ mt', p.2.cls ≠ .type "list_iterator") ∧ Jn m' mt'
def MutPost (h₀ : Heap) (L : Addr) (Jn : (Str → Option Value) → List (Addr × Obj) → Prop) (keep : List (Addr × Obj)) (s₁ : Shared) (Q : Flow → Shared → Prop) (f : Flow) (s₂ : Shared) : Prop :=
  match f with
  | .ret v => Q (.ret v) s₂
  | .brk => Q .next s₂
  | _ => MutNext h₀ L Jn keep s₁ s₂

section
variable {prog : Program} {w : World} {A : Around} {E : Value → Shared → Prop} {s : Shared} {env : Env} {h₀ : Heap} {x : Str} {body : List Stmt} {Q : Flow → Shared → Prop}

/-- a loop over a list of the ledger, by an invariant over the turn's number, the frame and the part of the ledger that turns -/
theorem iter_mut {l : Addr} {vs : List Value} {c : Nat} {m₀ : Str → Option Value} {mt news : List (Addr × Obj)} (J : Nat → (Str → Option Value) → List (Addr × Obj) → Prop)
    (hh : A.handled = none) (hl : (l, listOf vs.toArray c) ∈ news) (F : Fr h₀ env.locals s.heap m₀) (N : News h₀ env.locals s.heap (mt ++ news)) (hj : J 0 m₀ mt)
    (turn : ∀ i v m₁ mt₁ h tk I oI, vs[i]? = some v → J i m₁ mt₁ → Fr h₀ env.locals h (fun y => if y = x then some v else m₁ y) → News h₀ env.locals h (mt₁ ++ (I, oI) :: news) → (∀ p ∈ mt₁, p.1 ≠ I) → (∀ p ∈ news, p.1 < I) → oI.cls = .type "list_iterator" →
      wpAny (model prog w) A (execs body env) (MutPost h₀ env.locals (J (i + 1)) ((I, oI) :: news) { s with heap := h, toks := tk } Q) E { s with heap := h, toks := tk })
    (done : ∀ m₁ mt₁ h tk, J vs.length m₁ mt₁ → Fr h₀ env.locals h m₁ → News h₀ env.locals h (mt₁ ++ news) → Q .next { s with heap := h, toks := tk }) :
    wpAny (model prog w) A (pyIter (.ref l)) (fun it s₂ => LoopAtV prog w A h₀ env x body Q E it s₂) E s := by
  have hlN := N _ (List.mem_append_right mt hl)
  have hls : s.heap.IsList l vs.toArray := ⟨_, hlN.1, rfl, _, rfl⟩
  have hlt : l < s.heap.objs.size := Heap.lt_size hlN.1
  have hne : l ≠ s.heap.objs.size := Nat.ne_of_lt hlt
  refine wpAny_pyIter_list hls ?_
  have W := Walks.list (prog := prog) (w := w) hh s.heap.objs.size l hne vs.toArray
  have hlen : vs.toArray.size = vs.length := by simp
  rw [hlen] at W
  have hI0 : h₀.get? s.heap.objs.size = none := next_is_new F
  let J' : Nat → (Str → Option Value) → List (Addr × Obj) → Prop := fun i m₁ n₁ => ∃ mt₁, n₁ = mt₁ ++ news ∧ J i m₁ mt₁
  refine ⟨s.heap.objs.size, [s.heap.objs.size, l], [s.heap.objs.size], vs.length, _, _, m₀, mt ++ news, J', rfl, W, ?_, ?_, ?_, ⟨⟨_, Heap.get?_push_size _ rfl, rfl, rfl⟩, hls.at fun o e => Heap.get?_push_of_some _ e⟩, F.push _, (fun p hp => ⟨Heap.get?_push_of_some _ (N p hp).1, (N p hp).2⟩), ⟨mt, rfl, hj⟩, ?_, ?_⟩
  · intro hm
    rcases List.mem_cons.mp hm with e | hm
    · exact absurd F.ns.lt (e ▸ Nat.lt_irrefl _)
    · exact hlN.2.1 (List.mem_singleton.mp hm).symm
  · intro b hb
    rw [List.mem_singleton.mp hb]; exact hI0
  · intro p hp hI
    exact absurd (Heap.lt_size (N p hp).1) ((List.mem_singleton.mp hI) ▸ Nat.lt_irrefl _)
  · rintro i v m₁ news₁ s₁ own ⟨hh', tk', rfl⟩ hin hP ⟨mt₁, rfl, hJ⟩ hoff hsub hget hall hst' F₁ N₁
    obtain ⟨⟨oI, hoI, hcI, _⟩, _⟩ := hst'
    have hio : (s.heap.objs.size, oI) ∈ own := hall _ (.head _) hI0 oI hoI
    have N₂ : News h₀ env.locals hh' (mt₁ ++ (s.heap.objs.size, oI) :: news) := fun p hp => by
      rcases List.mem_append.mp hp with hp | hp
      · exact N₁ p (List.mem_append_right _ (List.mem_append_left _ hp))
      · rcases List.mem_cons.mp hp with rfl | hp
        · exact N₁ _ (List.mem_append_left _ hio)
        · exact N₁ p (List.mem_append_right _ (List.mem_append_right _ hp))
    refine wpAny_mono (turn i v m₁ mt₁ hh' tk' s.heap.objs.size oI (by simpa using hP) hJ F₁ N₂ (fun p hp q => hoff p (List.mem_append_left _ hp) (by rw [q]; exact .head _)) (fun p hp => Heap.lt_size (N p (List.mem_append_right _ hp)).1) hcI) (fun f s₂ p => ?_) fun _ _ e => e
    have fin : MutNext h₀ env.locals (J (i + 1)) ((s.heap.objs.size, oI) :: news) { s with heap := hh', toks := tk' } s₂ → LoopStepU h₀ env.locals [s.heap.objs.size] own (J' (i + 1)) { s with heap := hh', toks := tk' } .next s₂ := by
      rintro ⟨h', tk, m', mt', e, F', N', hcl, hjn⟩
      refine ⟨rfl, h', tk, m', mt' ++ news, e, F', fun q hq => ?_, fun q hq hq1 => ?_, mt', rfl, hjn⟩
      · rcases List.mem_append.mp hq with hq | hq
        · rcases List.mem_cons.mp (hsub q hq) with e1 | e1
          · have : q = (s.heap.objs.size, oI) := Prod.ext e1 (by have := hget q hq; rw [e1, hoI] at this; exact (Option.some.inj this).symm)
            rw [this]
            exact N' _ (List.mem_append_right _ (.head _))
          · have e2 := List.mem_singleton.mp e1
            have hl1 := (N₁ _ (List.mem_append_right own (List.mem_append_right mt₁ hl))).1
            have : q = (l, listOf vs.toArray c) := Prod.ext e2 (by have := hget q hq; rw [e2, hl1] at this; exact (Option.some.inj this).symm)
            rw [this]
            exact N' _ (List.mem_append_right _ (.tail _ hl))
        · rcases List.mem_append.mp hq with hq | hq
          · exact N' _ (List.mem_append_left _ hq)
          · exact N' _ (List.mem_append_right _ (.tail _ hq))
      · rcases List.mem_append.mp hq with hq | hq
        · have e1 := List.mem_singleton.mp hq1
          have a1 := (N' _ (List.mem_append_left _ hq)).1
          have a2 := (N' (s.heap.objs.size, oI) (List.mem_append_right _ (.head _))).1
          rw [e1, a2] at a1
          have e2 : oI = q.2 := Option.some.inj a1
          exact hcl q hq (by rw [← e2]; exact hcI)
        · exact absurd (Heap.lt_size (N q (List.mem_append_right _ hq)).1) ((List.mem_singleton.mp hq1) ▸ Nat.lt_irrefl _)
    cases f with
    | ret v => exact .ret p
    | brk => exact .brk p
    | next => exact .next (fin p)
    | cont => exact .cont (fin p)
  · rintro h' tk m' news' F' N' _ ⟨mt₁, rfl, hJ⟩
    exact done m' mt₁ h' tk hJ F' N'
end
end Mine

namespace Mine

/-- what unpacked_codes computes -/
def unpk (full : Int) : List Int → List Int → List (List Int) → List Int → Option (List Int)
  | [], sg, _, _ => some sg
  | c :: cs, sg, ws, bf =>
    if c = 5 then some sg
    else if c = 4 then unpk full cs sg [] []
    else match wordOf full ws c bf with
      | none => none
      | some v => unpk full cs (sg ++ v) (if bf ≠ [] ∧ 6 + (ws.length : Int) < full then ws ++ [bf ++ v.take 1] else ws) v

theorem ne_obj {h : Heap} {a b : Addr} {oa ob : Obj} (ha : h.get? a = some oa) (hb : h.get? b = some ob) (hne : oa.cls ≠ ob.cls) : a ≠ b := by
  rintro rfl
  rw [ha] at hb
  cases hb
  exact hne rfl

theorem pin4 {m : Str → Option Value} {a b c d : Str} {va vb vc vd : Value} (ha : m a = some va) (hb : m b = some vb) (hc : m c = some vc) (hd : m d = some vd) :
    m = fun y => if y = a then some va else if y = b then some vb else if y = c then some vc else if y = d then some vd else m y := by
  funext y
  by_cases h1 : y = a
  · subst h1; simp [ha]
  · by_cases h2 : y = b
    · subst h2; simp [hb, h1]
    · by_cases h3 : y = c
      · subst h3; simp [hc, h1, h2]
      · by_cases h4 : y = d
        · subst h4; simp [hd, h1, h2, h3]
        · simp [h1, h2, h3, h4]

theorem allLt_mem {l : List (Addr × Obj)} {d : Addr} (x : AllLt d l) : ∀ p ∈ l, p.1 < d := by
  induction l with
  | nil => intro p hp; exact absurd hp (by simp)
  | cons q r ih =>
    intro p hp
    rcases List.mem_cons.mp hp with h | h
    · rw [h]; exact x.1
    · exact ih x.2 p h
theorem TupI.mono {l l' : List (Addr × Obj)} {v : Value} {ns : List Int} (h : TupI l v ns) (k : ∀ p ∈ l, p ∈ l') : TupI l' v ns := let ⟨a, vs, e, hm, hi⟩ := h; ⟨a, vs, e, k _ hm, hi⟩
theorem WordsAre.mono {l l' : List (Addr × Obj)} {wv : List Value} {ws : List (List Int)} (h : WordsAre l wv ws) (k : ∀ p ∈ l, p ∈ l') : WordsAre l' wv ws :=
  ⟨h.1, fun i v e => let ⟨w, e1, e2⟩ := h.2 i v e; ⟨w, e1, e2.mono k⟩⟩
theorem SizesAt.mono {l l' : List (Addr × Obj)} {xS dS : Addr} {es : List DictEntry} {n : Nat} {full : Int} (h : SizesAt l xS dS es n full) (k : ∀ p ∈ l, p ∈ l') : SizesAt l' xS dS es n full :=
  ⟨k _ h.obj, k _ h.dct, h.clear, h.fin, h.first, h.full⟩

theorem ltNe : Value.type "list" ≠ Value.type "tuple" := by decide
theorem liNe : Value.type "list" ≠ Value.type "list_iterator" := by decide
theorem tiNe : Value.type "tuple" ≠ Value.type "list_iterator" := by decide
theorem raisedN_sub {B₀ h : Heap} {envs : List Env} {e : Addr} {cls : Value} {l l' : List (Addr × Obj)} (R : RaisedN B₀ envs e cls l h) (k : ∀ p ∈ l', p ∈ l) : RaisedN B₀ envs e cls l' h := by
  obtain ⟨B, a0, hB, hl, hfl⟩ := R
  exact ⟨B, a0, hB, fun q hq => hl q (k q hq), hfl⟩
theorem drop_at {α : Type} {l : List α} {i : Nat} {c : α} (h : l[i]? = some c) : l.drop i = c :: l.drop (i + 1) := by
  obtain ⟨hi, he⟩ := List.getElem?_eq_some_iff.mp h
  rw [List.drop_eq_getElem_cons hi, he]
theorem wordOf_len {full : Int} {ws : List (List Int)} {c : Int} {bf v : List Int} {i : Nat} (h : wordOf full ws c bf = some v) (bl : bf.length ≤ i) (wil : ∀ w ∈ ws, w.length ≤ i + 1 ∧ w ≠ []) : v.length ≤ i + 1 ∧ v ≠ [] := by
  unfold wordOf at h
  split at h
  · cases h; exact ⟨by simp, by simp⟩
  · split at h
    · exact wil _ (List.mem_of_getElem? h)
    · split at h
      · rename_i q
        cases h
        refine ⟨?_, by simp [q.2.1]⟩
        have : (bf.take 1).length ≤ 1 := by rw [List.length_take]; exact Nat.min_le_left _ _
        rw [List.length_append]; omega
      · cases h
theorem WordsAre.snoc {l : List (Addr × Obj)} {wv : List Value} {ws : List (List Int)} {v : Value} {n : List Int} (h : WordsAre l wv ws) (k : TupI l v n) : WordsAre l (wv ++ [v]) (ws ++ [n]) := by
  refine ⟨by simp [h.1], fun i x e => ?_⟩
  by_cases q : i < wv.length
  · rw [List.getElem?_append_left q] at e
    obtain ⟨w, e1, e2⟩ := h.2 i x e
    exact ⟨w, by rw [List.getElem?_append_left (by rw [← h.1]; exact q)]; exact e1, e2⟩
  · rw [List.getElem?_append_right (by omega)] at e
    have q2 : i - wv.length = 0 := by
      cases j : i - wv.length with
      | zero => rfl
      | succ j => rw [j] at e; simp at e
    rw [q2] at e
    cases e
    exact ⟨n, by rw [List.getElem?_append_right (by rw [← h.1]; omega), ← h.1, q2]; rfl, k⟩

structure UnpJ (full : Int) (ns : List Int) (xS : Addr) (news : List (Addr × Obj)) (i : Nat) (m : Str → Option Value) (mt : List (Addr × Obj)) (sg : List Int) (ws : List (List Int)) (bf : List Int)
    (aS : Addr) (sv : List Value) (cS : Nat) (aW : Addr) (wv : List Value) (cW : Nat) (aB : Addr) (bv : List Value) (tups : List (Addr × Obj)) : Prop where
  run : unpk full ns [] [] [] = unpk full (ns.drop i) sg ws bf
  bl : bf.length ≤ i
  wl : ws.length ≤ i
  wil : ∀ w ∈ ws, w.length ≤ i + 1 ∧ w ≠ []
  sl : sg.length ≤ i * 100
  mt : mt = (aS, listOf sv.toArray cS) :: (aW, listOf wv.toArray cW) :: tups
  si : IntsAre sv sg
  wi : WordsAre tups wv ws
  bm : (aB, tupO bv) ∈ tups
  bi : IntsAre bv bf
  cl : ∀ p ∈ tups, p.2.cls = .type "tuple"
  lS : ∀ p ∈ news, p.1 < aS
  lW : ∀ p ∈ news, p.1 < aW
  ne : aS ≠ aW
  m1 : m (Str.ofString "signs") = some (.ref aS)
  m2 : m (Str.ofString "words") = some (.ref aW)
  m3 : m (Str.ofString "before") = some (.ref aB)
  m4 : m (Str.ofString "sizes") = some (.ref xS)
def UnpInv (full : Int) (ns : List Int) (xS : Addr) (news : List (Addr × Obj)) (i : Nat) (m : Str → Option Value) (mt : List (Addr × Obj)) : Prop :=
  ∃ sg ws bf aS sv cS aW wv cW aB bv tups, UnpJ full ns xS news i m mt sg ws bf aS sv cS aW wv cW aB bv tups

local macro_rules | `(tactic| k_mem) => `(tactic| assumption)
local macro_rules | `(tactic| k_get) => `(tactic| assumption)
local macro_rules | `(tactic| walk_at "call builtin:len") => `(tactic| (k_here; (with_reducible show wpAny _ _ (call (Value.builtin "len") [Value.ref _]) _ _ _); (refine' len_list (News.isList ?N ?m) ?f ?_); (case N => k_asm); (case m => k_mem); (case f => (rw [List.size_toArray]; omega)); k_whole; (try simp only [List.size_toArray])))

set_option maxHeartbeats 8000000 in
theorem unpacked_call {w : World} {A₀ A : Around} {base h₀ : Heap} {outer : List Env} {env : Env} {L : Addr} {m mg mb : Str → Option Value} {mean : ExcName → Option Value} {news : List (Addr × Obj)} {s : Shared} {Q : Value → Shared → Prop} {E : Value → Shared → Prop}
  (B : Below A₀ base outer h₀) (F : Fr h₀ L s.heap m) (X : (hd.heap_39 w.params).In h₀) (N : News h₀ L s.heap news) (T : Top hd.view_39 LO mean mg mb h₀)
  (hA : A.frames = some (env :: outer)) (hf : env.frame = some L) (hke : env.scope.kind = .function) (hroom : A.depth < 700) (hh : A.handled = none)
  {xS dS aC : Addr} {es : List DictEntry} {n : Nat} {full : Int} {cv : List Value} {cc : Nat} {ns : List Int}
  (S : SizesAt news xS dS es n full)
  (hc : (aC, listOf cv.toArray cc) ∈ news) (hci : IntsAre cv ns) (hcl : ns.length ≤ 50) (hcb : ∀ c ∈ ns, c < 1000)
  (hQ : ∀ aR rv cR r h' tk made, unpk full ns [] [] [] = some r → Fr h₀ L h' m → News h₀ L h' (made ++ news) → (aR, listOf rv.toArray cR) ∈ made ++ news → IntsAre rv r → r.length ≤ 5000 → Q (.ref aR) { s with heap := h', toks := tk })
  (hE : ∀ e g h' tk, unpk full ns [] [] [] = none → Fr h₀ L g m → g.UpToSlots h' → RaisedN base (env :: outer) e (.ref 59) news h' → E (.ref e) { s with heap := h', toks := tk })
  : wpAny (model PySem.Challenge.rw_og0129_01.row.prog w) A (call (.ref 111) [.ref xS, .ref aC]) Q E s := by
  revert X
  w_top off
  k_fill
  intro X
  refine wpAny_call ?_
  (refine' code_def B F X N T hA hf hke ?k6 ?k7 ?k8 ?k9 ?kB ?_ ?c2 ?c3 ?c4 ?c5; (case k6 => k_is); (case k7 => k_is); (case k8 => exact Nat.lt_trans hroom (by decide)); (case k9 => first | exact BindsTo.of_eq rfl | exact binds_K (by k_in) rfl (by k_is) rfl rfl rfl | fail "k_enter: no rule for these arguments"); (case c5 => decide); (case kB => exact locs rfl); (case c2 => exact rfl); (case c3 => exact rfl); (case c4 => exact rfl); k_whole; intro g' L' h' FG' F' N' B' X' T'; (try dsimp only); (try k_lift B'); (try k_fold))
  repeat' (first | (k_unfold; (try dsimp only)) | walk1 | (dsimp only; walk1) | fail "no step")
  rename_i aS hx1 lS hx2 tk1 aW hx3 lW hx4 tk2 aB hx5 lB hx6 nF nN
  refine For_invV g' rfl rfl ?_ (by intro _; with_unfolding_all rfl) (by passes_own)
  walk1
  refine iter_mut (mt := [(aS, listOf #[] 0), (aW, listOf #[] 0), (aB, tupO [])]) (news := news) (UnpInv full ns xS news) hh hc nF (fun p hp => nN p ?_) ?_ ?_ ?_
  · rcases List.mem_append.mp hp with hp | hp
    · simp only [List.mem_cons, List.not_mem_nil, or_false] at hp
      rcases hp with rfl | rfl | rfl
      · exact .tail _ (.tail _ (.head _))
      · exact .tail _ (.head _)
      · exact .head _
    · exact .tail _ (.tail _ (.tail _ hp))
  · exact ⟨[], [], [], aS, [], 0, aW, [], 0, aB, [], [(aB, tupO [])], ⟨by rw [List.drop_zero], Nat.le_refl _, Nat.le_refl _, (fun _ h => nomatch h), Nat.zero_le _, rfl, .nil, ⟨rfl, fun i v e => by simp at e⟩, .head _, .nil, (fun p hp => by rw [List.mem_singleton.mp hp]),
      fun p hp => lS p hp, fun p hp => allLt_mem lW.2 p hp, Nat.ne_of_lt lW.1, rfl, rfl, rfl, rfl⟩⟩
  · rintro i v m₁ mt₁ hp tk I oI hv ⟨sg, ws, bf, aS, sv, cS, aW, wv, cW, aB, bv, tups, J⟩ F1 N1 hI lI cI
    obtain ⟨jrun, jbl, jwl, jwil, jsl, jmt, jsi, jwi, jbm, jbi, jcl, jlS, jlW, jne, jm1, jm2, jm3, jm4⟩ := J
    subst jmt
    rw [pin4 jm1 jm2 jm3 jm4] at F1
    obtain ⟨c, ct, rfl, hci1⟩ : ∃ c ct, v = .int c ct ∧ ns[i]? = some c := by
      obtain ⟨nn, tt, e1, e2⟩ := hci.at i v hv
      exact ⟨nn, tt, e1, e2⟩
    have S1 := S.mono (l' := (aS, listOf sv.toArray cS) :: (aW, listOf wv.toArray cW) :: tups ++ (I, oI) :: news) (fun p hp => List.mem_append_right _ (.tail _ hp))
    obtain ⟨s1, s2, ⟨t1, s3⟩, ⟨t2, s4⟩, ⟨t3, s5⟩, ⟨t4, s6⟩⟩ := S1
    repeat' (first | (k_unfold; (try dsimp only)) | walk1 | (dsimp only; walk1) | fail "no step")
    · unfold MutPost
      dsimp only
      repeat' (first | (k_unfold; (try dsimp only)) | walk1 | (dsimp only; walk1) | fail "no step")
      have hc5 : c = 5 := by assumption
      (with_reducible rename Fr h₀ L _ m => kF)
      (with_reducible rename News h₀ L _ _ => kN)
      have hil : i < ns.length := (List.getElem?_eq_some_iff.mp hci1).1
      have hdr : ns.drop i = c :: ns.drop (i + 1) := drop_at hci1
      refine hQ aS sv cS sg _ _ ((aS, listOf sv.toArray cS) :: (aW, listOf wv.toArray cW) :: tups ++ [(I, oI)]) ?_ kF (News.sub' kN fun p hp => ?_) (.head _) jsi (by omega)
      · rw [jrun, hdr]; unfold unpk; rw [if_pos hc5]
      · simpa using hp
    · have hc4 : c = 4 := by assumption
      (with_reducible rename Fr _ L' _ _ => nF)
      (with_reducible rename News _ L' _ _ => nN)
      rename_i lN _ _ _ la _ _ dN _ lb _
      show MutNext _ _ _ _ _ _
      refine ⟨_, _, _, (aS, listOf sv.toArray cS) :: (lN, listOf #[] 0) :: (dN, tupO []) :: tups, rfl, nF, News.sub' nN (fun p hp => ?_), ?_, sg, [], [], aS, sv, cS, lN, [], 0, dN, [], (dN, tupO []) :: tups, ?_⟩
      · rcases List.mem_cons.mp hp with rfl | hp
        · exact .tail _ (.tail _ (.head _))
        · rcases List.mem_cons.mp hp with rfl | hp
          · exact .tail _ (.head _)
          · rcases List.mem_cons.mp hp with rfl | hp
            · exact .head _
            · exact .tail _ (.tail _ (.tail _ (.tail _ hp)))
      · intro p hp
        rcases List.mem_cons.mp hp with rfl | hp
        · exact liNe
        · rcases List.mem_cons.mp hp with rfl | hp
          · exact liNe
          · rcases List.mem_cons.mp hp with rfl | hp
            · exact tiNe
            · rw [jcl p hp]; exact tiNe
      · refine ⟨by rw [jrun, drop_at hci1, unpk, if_neg (by omega), if_pos hc4], Nat.zero_le _, Nat.zero_le _, (fun _ h => nomatch h), by rw [Nat.add_mul]; omega, rfl, jsi, ⟨rfl, fun i v e => by simp at e⟩, .head _, .nil, fun p hp => ?_, jlS, fun p hp => ?_, ?_, rfl, rfl, rfl, rfl⟩
        · rcases List.mem_cons.mp hp with rfl | hp
          · rfl
          · exact jcl p hp
        · exact la p (List.mem_append_right _ (.tail _ hp))
        · exact Nat.ne_of_lt (la _ (.head _))
    · have hne5 : c ≠ 5 := by assumption
      have hne4 : c ≠ 4 := by assumption
      have hcm : c ∈ ns := List.mem_of_getElem? hci1
      have hil : i < ns.length := (List.getElem?_eq_some_iff.mp hci1).1
      refine word_of_call B' F1 X' N1 T' (env := envOf _ _ L' 111 (.ref 110)) (outer := env :: outer) (A := A.deeper (envOf _ _ L' 111 (.ref 110))) (Around.frames_deeper B'.stack) rfl rfl (by rw [depth_deeper]; omega) hh
        (S.mono (fun p hp => List.mem_append_right _ (.tail _ hp))) (wv := wv) (cw := cW) (.tail _ (.head _)) (jwi.mono fun p hp => List.mem_append_left _ (.tail _ (.tail _ hp))) (by omega) (bv := bv) (List.mem_append_left _ (.tail _ (.tail _ jbm))) jbi (by omega) (by omega) (hcb c hcm) ?a ?b
      case a =>
        intro v wo h1 tk' made hwo F2 N2 hv
        obtain ⟨aV, vv, rfl, hvm, hvi⟩ := hv
        obtain ⟨hwl, hwn⟩ := wordOf_len hwo jbl jwil
        have N3 : News g' L' h1 ((aS, listOf sv.toArray cS) :: (aW, listOf wv.toArray cW) :: (aV, tupO vv) :: (tups ++ (I, oI) :: news)) := fun p hp => by
          rcases List.mem_cons.mp hp with rfl | hp
          · exact N2 _ (List.mem_append_right _ (.head _))
          · rcases List.mem_cons.mp hp with rfl | hp
            · exact N2 _ (List.mem_append_right _ (.tail _ (.head _)))
            · rcases List.mem_cons.mp hp with rfl | hp
              · exact N2 _ hvm
              · exact N2 _ (List.mem_append_right _ (.tail _ (.tail _ hp)))
        clear N2 N1 hvm
        repeat' (first | (k_unfold; (try dsimp only)) | walk1 | (dsimp only; walk1) | fail "no step")
        (with_reducible rename Fr _ L' _ _ => nF)
        (with_reducible rename News _ L' _ _ => nN)
        have aSV : aS ≠ aV := ne_obj (nN _ (.head _)).1 (nN _ (.tail _ (.tail _ (.head _)))).1 ltNe
        have aWV : aW ≠ aV := ne_obj (nN _ (.tail _ (.head _))).1 (nN _ (.tail _ (.tail _ (.head _)))).1 ltNe
        have offS : ∀ p ∈ (aW, listOf wv.toArray cW) :: (aV, tupO vv) :: (tups ++ (I, oI) :: news), p.1 ≠ aS := fun p hp => by
          rcases List.mem_cons.mp hp with rfl | hp
          · exact jne.symm
          · rcases List.mem_cons.mp hp with rfl | hp
            · exact aSV.symm
            · rcases List.mem_append.mp hp with hp2 | hp2
              · exact ne_obj (nN _ (.tail _ (.tail _ (.tail _ hp)))).1 (nN _ (.head _)).1 (by rw [jcl p hp2]; exact ltNe.symm)
              · rcases List.mem_cons.mp hp2 with rfl | hp2
                · exact (hI _ (.head _)).symm
                · exact Nat.ne_of_lt (jlS p hp2)
        have hsl := jsi.length
        have hvl := hvi.length
        have hvn : vv.length ≠ 0 := by rw [hvl]; exact fun q => hwn (List.length_eq_zero_iff.mp q)
        refine kup_extend (its := sv.toArray) (n := cS) (its2 := vv.toArray) (n2 := 0) (l := sv ++ vv) nF nN (.tail _ (.tail _ (.head _))) (by simp) (by simpa using hvn) (.head offS) (by intro q; simp [Builtin.List.listTooLong, sizeLine_eq] at q; omega) (by simp [sizeLine_eq]; omega) (by simp [sizeLine_eq]; omega) ?_
        intro h3 F3 N4
        clear nF nN
        repeat' (first | (k_unfold; (try dsimp only)) | walk1 | (dsimp only; walk1) | fail "no step")
        (with_reducible rename News _ L' _ _ => nN)
        have hbm : (aB, tupO bv) ∈ (aS, listOf (sv ++ vv).toArray (cS + 1)) :: (aW, listOf wv.toArray cW) :: (aV, tupO vv) :: (tups ++ (I, oI) :: news) := .tail _ (.tail _ (.tail _ (List.mem_append_left _ jbm)))
        have hwm : (aW, listOf wv.toArray cW) ∈ (aS, listOf (sv ++ vv).toArray (cS + 1)) :: (aW, listOf wv.toArray cW) :: (aV, tupO vv) :: (tups ++ (I, oI) :: news) := .tail _ (.head _)
        have hbl2 : bv.length ≤ 1000 := by have := jbi.length; omega
        have hwl2 := jwi.1
        have hun : unpk full (ns.drop i) sg ws bf = unpk full (ns.drop (i + 1)) (sg ++ wo) (if bf ≠ [] ∧ 6 + (ws.length : Int) < full then ws ++ [bf ++ wo.take 1] else ws) wo := by
          rw [drop_at hci1, unpk, if_neg hne5, if_neg hne4, hwo]
        have offS2 := offS
        refine ktl_truthyK nN hbm hbl2 ?_
        have plain : ¬ (bf ≠ [] ∧ 6 + (ws.length : Int) < full) → ∀ (m2 : Str → Option Value) h4 tk4, Fr g' L' h4 m2 → News g' L' h4 ((aS, listOf (sv ++ vv).toArray (cS + 1)) :: (aW, listOf wv.toArray cW) :: (aV, tupO vv) :: (tups ++ (I, oI) :: news)) →
            m2 (Str.ofString "signs") = some (.ref aS) → m2 (Str.ofString "words") = some (.ref aW) → m2 (Str.ofString "before") = some (.ref aV) → m2 (Str.ofString "sizes") = some (.ref xS) →
            ∀ s1 : Shared, MutNext g' L' (UnpInv full ns xS news (i + 1)) ((I, oI) :: news) s1 { s1 with heap := h4, toks := tk4 } := by
          intro hno m2 h4 tk4 F4 N4 e1 e2 e3 e4 s1
          refine ⟨h4, tk4, m2, (aS, listOf (sv ++ vv).toArray (cS + 1)) :: (aW, listOf wv.toArray cW) :: (aV, tupO vv) :: tups, rfl, F4, N4, ?_, sg ++ wo, ws, wo, aS, sv ++ vv, cS + 1, aW, wv, cW, aV, vv, (aV, tupO vv) :: tups, ?_⟩
          · intro p hp
            rcases List.mem_cons.mp hp with rfl | hp
            · exact liNe
            · rcases List.mem_cons.mp hp with rfl | hp
              · exact liNe
              · rcases List.mem_cons.mp hp with rfl | hp
                · exact tiNe
                · rw [jcl p hp]; exact tiNe
          · exact ⟨by rw [jrun, hun, if_neg hno], hwl, Nat.le_succ_of_le jwl, fun w h => ⟨Nat.le_succ_of_le (jwil w h).1, (jwil w h).2⟩, by rw [List.length_append, Nat.add_mul]; omega, rfl, jsi.append hvi, jwi.mono (fun p h => .tail _ h), .head _, hvi, fun p hp => by
              rcases List.mem_cons.mp hp with rfl | hp
              · rfl
              · exact jcl p hp, jlS, jlW, jne, e1, e2, e3, e4⟩
        have s1' : (xS, instObj 86 dS) ∈ (aS, listOf (sv ++ vv).toArray (cS + 1)) :: (aW, listOf wv.toArray cW) :: (aV, tupO vv) :: (tups ++ (I, oI) :: news) := .tail _ (.tail _ (.tail _ (List.mem_append_right _ (.tail _ S.obj))))
        have s2' : (dS, dictOf es n) ∈ (aS, listOf (sv ++ vv).toArray (cS + 1)) :: (aW, listOf wv.toArray cW) :: (aV, tupO vv) :: (tups ++ (I, oI) :: news) := .tail _ (.tail _ (.tail _ (List.mem_append_right _ (.tail _ S.dct))))
        by_cases hbe : bv = []
        · subst hbe
          have hbe' : bf = [] := by cases jbi; rfl
          rw [List.isEmpty_nil]
          repeat' (first | (k_unfold; (try dsimp only)) | walk1 | (dsimp only; walk1) | fail "no step")
          (with_reducible rename Fr _ L' _ _ => nF)
          (with_reducible rename News _ L' _ _ => nN)
          exact plain (fun q => q.1 hbe') _ _ _ nF nN rfl rfl rfl rfl _
        · obtain ⟨b0, br, rfl⟩ := List.exists_cons_of_ne_nil hbe
          rw [List.isEmpty_cons]
          repeat' (first | (k_unfold; (try dsimp only)) | walk1 | (dsimp only; walk1) | fail "no step")
          · (with_reducible rename Fr _ L' _ _ => nF)
            (with_reducible rename News _ L' _ _ => nN)
            have hlf : (6 : Int) + (wv.length : Int) < full := by assumption
            obtain ⟨v0, vr, rfl⟩ := List.exists_cons_of_ne_nil (l := vv) (fun q => hvn (by rw [q]; rfl))
            cases hvi with
            | cons v0i v0t hvr =>
            rename_i wr
            refine slice_one nF nN (.tail _ (.tail _ (.head _))) (fun D hpD made3 F5 N5 hD hlt5 => ?_) (by with_unfolding_all rfl) (by intro _; with_unfolding_all rfl)
            refine add_tuples F5 N5 (vs := b0 :: br) (ws := [Value.int v0i v0t]) ⟨_, (N5 _ (List.mem_append_right _ hbm)).1, rfl, _, rfl⟩ ⟨_, (N5 _ hD).1, rfl, _, rfl⟩ (fun q => absurd q (List.cons_ne_nil _ _)) (fun _ q => absurd q (List.cons_ne_nil _ _)) ?hmain ?hz
            case hz => (rw [sizeLine_eq]; simp only [List.length_cons, List.length_nil] at *; omega)
            intro _ _ h6 F6 N6
            obtain ⟨D2, hD2⟩ : ∃ D2, D2 = hpD.objs.size := ⟨_, rfl⟩
            try dsimp only at N6 ⊢
            rw [← hD2] at N6 ⊢
            have bfn : bf ≠ [] := by intro q; rw [q] at jbi; cases jbi
            have N7 : News g' L' h6 ((aW, listOf wv.toArray cW) :: (aS, listOf (sv ++ Value.int v0i v0t :: vr).toArray (cS + 1)) :: (aV, tupO (Value.int v0i v0t :: vr)) :: (D2, tupO ((b0 :: br) ++ [Value.int v0i v0t])) :: (tups ++ (I, oI) :: news)) := fun p hp => by
              rcases List.mem_cons.mp hp with rfl | hp
              · exact N6 _ (.tail _ (List.mem_append_right _ (.tail _ (.head _))))
              · rcases List.mem_cons.mp hp with rfl | hp
                · exact N6 _ (.tail _ (List.mem_append_right _ (.head _)))
                · rcases List.mem_cons.mp hp with rfl | hp
                  · exact N6 _ (.tail _ (List.mem_append_right _ (.tail _ (.tail _ (.head _)))))
                  · rcases List.mem_cons.mp hp with rfl | hp
                    · exact N6 _ (.head _)
                    · exact N6 _ (.tail _ (List.mem_append_right _ (.tail _ (.tail _ (.tail _ hp)))))
            clear N6 N5 nN nF
            have aWD : aW ≠ D2 := ne_obj (N7 _ (.head _)).1 (N7 _ (.tail _ (.tail _ (.tail _ (.head _))))).1 ltNe
            have offW : ∀ p ∈ (aS, listOf (sv ++ Value.int v0i v0t :: vr).toArray (cS + 1)) :: (aV, tupO (Value.int v0i v0t :: vr)) :: (D2, tupO ((b0 :: br) ++ [Value.int v0i v0t])) :: (tups ++ (I, oI) :: news), p.1 ≠ aW := fun p hp => by
              rcases List.mem_cons.mp hp with rfl | hp
              · exact jne
              · rcases List.mem_cons.mp hp with rfl | hp
                · exact aWV.symm
                · rcases List.mem_cons.mp hp with rfl | hp
                  · exact aWD.symm
                  · rcases List.mem_append.mp hp with hp2 | hp2
                    · exact ne_obj (N7 _ (.tail _ (.tail _ (.tail _ (.tail _ hp))))).1 (N7 _ (.head _)).1 (by rw [jcl p hp2]; exact ltNe.symm)
                    · rcases List.mem_cons.mp hp2 with rfl | hp2
                      · exact (hI _ (.tail _ (.head _))).symm
                      · exact Nat.ne_of_lt (jlW p hp2)
            walk1
            refine append_K (its := wv.toArray) (n := cW) F6 N7 (.head offW) ?_ (by rw [List.size_toArray, sizeLine_eq]; omega)
            intro h8 F8 N8
            rw [List.push_toArray] at N8
            clear N7 F6
            repeat' (first | (k_unfold; (try dsimp only)) | walk1 | (dsimp only; walk1) | fail "no step")
            (with_reducible rename Fr _ L' _ _ => nF)
            (with_reducible rename News _ L' _ _ => nN)
            show MutNext _ _ _ _ _ _
            refine ⟨_, _, _, (aS, listOf (sv ++ Value.int v0i v0t :: vr).toArray (cS + 1)) :: (aW, listOf (wv ++ [Value.ref D2]).toArray (cW + 1)) :: (aV, tupO (Value.int v0i v0t :: vr)) :: (D2, tupO ((b0 :: br) ++ [Value.int v0i v0t])) :: tups, rfl, nF, News.sub' nN (fun p hp => ?_), ?_, sg ++ v0i :: wr, ws ++ [bf ++ [v0i]], v0i :: wr, aS, sv ++ Value.int v0i v0t :: vr, cS + 1, aW, wv ++ [Value.ref D2], cW + 1, aV, Value.int v0i v0t :: vr, (aV, tupO (Value.int v0i v0t :: vr)) :: (D2, tupO ((b0 :: br) ++ [Value.int v0i v0t])) :: tups, ?_⟩
            · rcases List.mem_cons.mp hp with rfl | hp
              · exact .tail _ (.head _)
              · rcases List.mem_cons.mp hp with rfl | hp
                · exact .head _
                · exact .tail _ (.tail _ hp)
            · intro p hp
              rcases List.mem_cons.mp hp with rfl | hp
              · exact liNe
              · rcases List.mem_cons.mp hp with rfl | hp
                · exact liNe
                · rcases List.mem_cons.mp hp with rfl | hp
                  · exact tiNe
                  · rcases List.mem_cons.mp hp with rfl | hp
                    · exact tiNe
                    · rw [jcl p hp]; exact tiNe
            · refine ⟨by rw [jrun, hun, if_pos ⟨bfn, by omega⟩]; rfl, hwl, by rw [List.length_append]; exact Nat.succ_le_succ jwl, fun w h => ?_, by rw [List.length_append, Nat.add_mul]; omega, rfl, jsi.append (.cons _ _ hvr), (jwi.mono (fun p h => .tail _ (.tail _ h))).snoc ⟨D2, _, rfl, .tail _ (.head _), jbi.append (.cons _ _ .nil)⟩, .head _, .cons _ _ hvr, fun p hp => ?_, jlS, jlW, jne, rfl, rfl, rfl, rfl⟩
              · rcases List.mem_append.mp h with h | h
                · exact ⟨Nat.le_succ_of_le (jwil w h).1, (jwil w h).2⟩
                · rw [List.mem_singleton.mp h]
                  refine ⟨by rw [List.length_append, List.length_singleton]; omega, by simp⟩
              · rcases List.mem_cons.mp hp with rfl | hp
                · rfl
                · rcases List.mem_cons.mp hp with rfl | hp
                  · rfl
                  · exact jcl p hp
          · (with_reducible rename Fr _ L' _ _ => nF)
            (with_reducible rename News _ L' _ _ => nN)
            have hlf : ¬ (6 : Int) + (wv.length : Int) < full := by assumption
            exact plain (fun q => hlf (by omega)) _ _ _ nF nN rfl rfl rfl rfl _
      case b =>
        intro e g h1 tk' hwo Fg sm R
        have hno : unpk full ns [] [] [] = none := by
          rw [jrun, drop_at hci1, unpk, if_neg hne5, if_neg hne4, hwo]
        refine leave_onN B' Fg (raisedN_sub R fun p hp => List.mem_append_right _ (.tail _ hp)) sm fun h2 R2 sm2 => ?_
        exact hE e g' h2 _ hno FG' sm2 R2
  · rintro m₁ mt₁ hp tk ⟨sg, ws, bf, aS, sv, cS, aW, wv, cW, aB, bv, tups, J⟩ F1 N1
    obtain ⟨jrun, jbl, jwl, jwil, jsl, jmt, jsi, jwi, jbm, jbi, jcl, jlS, jlW, jne, jm1, jm2, jm3, jm4⟩ := J
    subst jmt
    rw [pin4 jm1 jm2 jm3 jm4] at F1
    dsimp only
    repeat' (first | (k_unfold; (try dsimp only)) | walk1 | (dsimp only; walk1) | fail "no step")
    (with_reducible rename Fr h₀ L _ m => kF)
    (with_reducible rename News h₀ L _ _ => kN)
    have hcl2 := hci.length
    refine hQ aS sv cS sg _ _ ((aS, listOf sv.toArray cS) :: (aW, listOf wv.toArray cW) :: tups) ?_ kF kN (.head _) jsi (by omega)
    rw [jrun, hcl2, List.drop_length]; rfl
end Mine

namespace Mine
noncomputable abbrev ik (prog : Program) (w : World) : HeapKind prog w (List Int) := tupleKind (PySem.intKind prog w)

structure DictT (prog : Program) (w : World) (oT : Obj) (xs : List (List Int × Addr × Value)) (keys : List (Addr × Obj)) : Prop where
  ex : oT.ExactDict
  dat : ∃ es ep, oT.data = .dict es ep ∧ es.toList = xs.map (entryOfKey (ik prog w))
  keys : ∀ x ∈ xs, ∃ vs, (x.2.1, tupO vs) ∈ keys ∧ IntsAre vs x.1
  nd : (xs.map (·.1)).Nodup

section
variable {prog : Program} {w : World} {A : Around} {E : Value → Shared → Prop} {s : Shared} {h₀ : Heap} {L d a : Addr} {m : Str → Option Value} {news rest keys : List (Addr × Obj)} {oT : Obj} {xs : List (List Int × Addr × Value)} {vs : List Value} {k : List Int}

theorem itemsAre_of : ∀ {vs : List Value} {k : List Int}, IntsAre vs k → ItemsAre (PySem.intKind prog w) k vs
  | _, _, .nil => .nil
  | _, _, .cons _ _ r => .cons (intKind_is _ _ _ _) (itemsAre_of r)
theorem isKey_of {h : Heap} (ha : h.get? a = some (tupO vs)) (hi : IntsAre vs k) : (ik prog w).is h k a := ⟨_, _, _, ha, rfl, rfl, itemsAre_of hi⟩
theorem dictH_of {h : Heap} (N : News h₀ L h news) (hd : (d, oT) ∈ news) (D : DictT prog w oT xs keys) (hk : ∀ p ∈ keys, p ∈ news) : h.DictOfH (ik prog w) d xs := by
  obtain ⟨es, ep, e1, e2⟩ := D.dat
  refine ⟨oT, es, ep, (N _ hd).1, D.ex, e1, e2, fun x hx => ?_, D.nd⟩
  obtain ⟨vs, hm, hi⟩ := D.keys x hx
  exact isKey_of (N _ (hk _ hm)).1 hi

theorem DictT.empty {kn : KeyKind prog w Int} (h : Obj.IsDictOf kn oT []) : DictT prog w oT [] keys := by
  obtain ⟨es, ep, h1, h2, _, h3, _⟩ := h
  exact ⟨h1, ⟨es, ep, h2, by cases q : es.toList with | nil => rfl | cons _ _ => rw [q] at h3; cases h3⟩, (fun x hx => nomatch hx), List.nodup_nil⟩
theorem inT {b : Bool} {Q : Value → Shared → Prop} (N : News h₀ L s.heap news) (hd : (d, oT) ∈ news) (D : DictT prog w oT xs keys) (hk : ∀ p ∈ keys, p ∈ news) (lo : (d == sysModules) = false) (ha : (a, tupO vs) ∈ news) (hi : IntsAre vs k) (hu : A.in1.units < cLine)
    (hb : (atKey xs k).isSome = b) (h : ∀ tk, Q (.bool b) { s with toks := tk }) : wpAny (model prog w) A (compareOp .In (.ref a) (.ref d)) Q E s :=
  wpAny_in_heap (knd := ik prog w) hu (isKey_of (N _ ha).1 hi) lo (dictH_of N hd D hk) (hb ▸ h _)
theorem itemT {value slice : PySem.Expr} {p : Addr × Value} {Q : Value → Shared → Prop} (N : News h₀ L s.heap news) (hd : (d, oT) ∈ news) (D : DictT prog w oT xs keys) (hk : ∀ p ∈ keys, p ∈ news) (ha : (a, tupO vs) ∈ news) (hi : IntsAre vs k) (hu : A.in1.units < cLine)
    (hp : atKey xs k = some p) (h : ∀ tk, Q p.2 { s with toks := tk })
    (hs : subscripted slice false (.ref d) (.ref a) = operate [.ref d, .ref a] (getItem (.ref d) (.ref a))) (hg : ∀ r, letTemporaryGo value (.ref d) r = pure ()) :
    wpAny (model prog w) A (subscriptTail value slice (.ref d) (.ref a)) Q E s := by
  have hD := dictH_of N hd D hk
  exact subscriptTail_ops hD.typeIs slot_dict_getitem.lookup (wpAny_getItem_heap (knd := ik prog w) hu (isKey_of (N _ ha).1 hi) hD hp (h _)) hs hg

theorem setT {v : Value} {Q : Unit → Shared → Prop} (F : Fr h₀ L s.heap m) (N : News h₀ L s.heap ((d, oT) :: rest)) (off : ∀ p ∈ rest, p.1 ≠ d) (D : DictT prog w oT xs keys) (hk : ∀ p ∈ keys, p ∈ rest) (hkey : (a, tupO vs) ∈ keys) (hi : IntsAre vs k)
    (hnew : atKey xs k = none) (hu : A.in1.units < cLine) (hz : xs.length ≤ 1000)
    (h : ∀ h' o' tk, Fr h₀ L h' m → News h₀ L h' ((d, o') :: rest) → DictT prog w o' (xs ++ [(k, a, v)]) keys → Q () { s with heap := h', toks := tk }) :
    wpAny (model prog w) A (setItem (.ref d) (.ref a) v) Q E s := by
  have z := N _ (.head _)
  refine wpAny_setItem_heap (knd := ik prog w) (hsz := by rw [sizeLine_eq]; omega) hu (isKey_of (N _ (.tail _ (hk _ hkey))).1 hi) (dictH_of N (.head _) D (fun p hp => .tail _ (hk p hp))) fun h' hm hs => ?_
  rw [storedH_new hnew] at hm
  obtain ⟨o', es, ep, ho, hx, e1, e2, _, hn⟩ := hm
  exact h h' o' _ (F.change hs z.2.1 z.2.2) (news_set (pre := []) N (fun p hp => nomatch hp) off hs ho) ⟨hx, ⟨es, ep, e1, e2⟩, (fun x hx => by
    rcases List.mem_append.mp hx with hx | hx
    · exact D.keys x hx
    · rw [List.mem_singleton.mp hx]; exact ⟨vs, hkey, hi⟩), hn⟩
end

theorem pin5 {m : Str → Option Value} {a b c d e : Str} {va vb vc vd ve : Value} (ha : m a = some va) (hb : m b = some vb) (hc : m c = some vc) (hd : m d = some vd) (he : m e = some ve) :
    m = fun y => if y = a then some va else if y = b then some vb else if y = c then some vc else if y = d then some vd else if y = e then some ve else m y := by
  funext y
  by_cases h1 : y = a
  · subst h1; simp [ha]
  · by_cases h2 : y = b
    · subst h2; simp [hb, h1]
    · by_cases h3 : y = c
      · subst h3; simp [hc, h1, h2]
      · by_cases h4 : y = d
        · subst h4; simp [hd, h1, h2, h3]
        · by_cases h5 : y = e
          · subst h5; simp [he, h1, h2, h3, h4]
          · simp [h1, h2, h3, h4, h5]

def lookT (T : List (List Int × Int)) (k : List Int) : Option Int := (T.find? fun x => decide (x.1 = k)).map (·.2)
/-- what packed_codes computes -/
def pack (full : Int) : List Int → List Int → List (List Int × Int) → Int → Int → List Int
  | [], cs, _, _, c => (if 0 ≤ c then cs ++ [c] else cs) ++ [5]
  | s :: ss, cs, T, n, c =>
    if c < 0 then pack full ss cs T n s
    else match lookT T [c, s] with
      | some e => pack full ss cs T n e
      | none => if full ≤ n + 1 then pack full ss (cs ++ [c] ++ [4]) [] 6 s else pack full ss (cs ++ [c]) (T ++ [([c, s], n)]) (n + 1) s

/-- the table of the heap and the table of the plain law -/
inductive TabIs : List (List Int × Addr × Value) → List (List Int × Int) → Prop
  | nil : TabIs [] []
  | cons {k : List Int} {a : Addr} {n : Int} {t : Tok} {xs T} : TabIs xs T → TabIs ((k, a, .int n t) :: xs) ((k, n) :: T)
theorem TabIs.snoc {k : List Int} {a : Addr} {n : Int} {t : Tok} : ∀ {xs T}, TabIs xs T → TabIs (xs ++ [(k, a, .int n t)]) (T ++ [(k, n)])
  | _, _, .nil => .cons .nil
  | _, _, .cons r => .cons r.snoc
theorem TabIs.len : ∀ {xs T}, TabIs xs T → xs.length = T.length
  | _, _, .nil => rfl
  | _, _, .cons r => by rw [List.length_cons, List.length_cons, r.len]
theorem TabIs.none {k : List Int} : ∀ {xs T}, TabIs xs T → lookT T k = none → atKey xs k = none
  | _, _, .nil, _ => rfl
  | _, _, .cons (k := k') r, h => by
    unfold lookT at h
    unfold atKey
    rw [List.find?_cons] at h ⊢
    by_cases q : k' = k
    · simp [q] at h
    · simp only [q, decide_false] at h ⊢
      exact r.none h
theorem TabIs.some {k : List Int} {n : Int} : ∀ {xs T}, TabIs xs T → lookT T k = some n → ∃ a t, atKey xs k = some (a, .int n t)
  | _, _, .nil, h => nomatch h
  | _, _, .cons (k := k') (a := a) (t := t) r, h => by
    unfold lookT at h
    unfold atKey
    rw [List.find?_cons] at h ⊢
    by_cases q : k' = k
    · simp only [q, decide_true, Option.map_some, Option.some.injEq] at h ⊢
      exact ⟨a, t, by rw [h]⟩
    · simp only [q, decide_false] at h ⊢
      exact r.some h

theorem off_ {h₀ h : Heap} {L a b : Addr} {oa ob : Obj} {l tups rest : List (Addr × Obj)} (N : News h₀ L h l) (ha : (a, oa) ∈ l) (hne : oa.cls ≠ .type "tuple") (hb : b ≠ a) (hc : ∀ p ∈ tups, p.2.cls = .type "tuple") (ht : ∀ p ∈ tups, p ∈ l)
    (hr : ∀ p ∈ rest, p.1 ≠ a) : ∀ p ∈ (b, ob) :: (tups ++ rest), p.1 ≠ a := fun p hp => by
  rcases List.mem_cons.mp hp with rfl | hp
  · exact hb
  · rcases List.mem_append.mp hp with hp | hp
    · exact ne_obj (N _ (ht p hp)).1 (N _ ha).1 (by rw [hc p hp]; exact hne.symm)
    · exact hr p hp
theorem re_swap0 {α : Type} {a b : α} {r : List α} : ∀ p ∈ a :: b :: r, p ∈ b :: a :: r := by grind
theorem re_rot {α : Type} {a b k : α} {r q : List α} : ∀ p ∈ a :: b :: (k :: r ++ q), p ∈ k :: b :: a :: (r ++ q) := by grind
theorem re_drop2 {α : Type} {a b x y : α} {r q : List α} : ∀ p ∈ a :: b :: r ++ q, p ∈ a :: b :: x :: (y :: r ++ q) := by grind
theorem re_swap1 {α : Type} {a b k : α} {r : List α} : ∀ p ∈ a :: b :: r, p ∈ k :: b :: a :: r := by grind
theorem dtNe : Value.type "dict" ≠ Value.type "tuple" := by decide
theorem diNe : Value.type "dict" ≠ Value.type "list_iterator" := by decide
theorem dlNe : Value.type "dict" ≠ Value.type "list" := by decide

structure PackJ (prog : Program) (w : World) (full : Int) (gs : List Int) (xS : Addr) (news : List (Addr × Obj)) (i : Nat) (m : Str → Option Value) (mt : List (Addr × Obj)) (cs : List Int) (T : List (List Int × Int)) (k c : Int)
    (aC : Addr) (cv : List Value) (cC : Nat) (aT : Addr) (oT : Obj) (xs : List (List Int × Addr × Value)) (tups : List (Addr × Obj)) (kt ct : Tok) : Prop where
  run : pack full gs [4] [] 6 (-1) = pack full (gs.drop i) cs T k c
  cl : cs.length ≤ 1 + 2 * i
  tl : T.length ≤ i
  mt : mt = (aT, oT) :: (aC, listOf cv.toArray cC) :: tups
  ci : IntsAre cv cs
  ti : TabIs xs T
  dt : DictT prog w oT xs tups
  cls : ∀ p ∈ tups, p.2.cls = .type "tuple"
  lC : ∀ p ∈ news, p.1 < aC
  lT : ∀ p ∈ news, p.1 < aT
  ne : aC ≠ aT
  lo : (aT == sysModules) = false
  m1 : m (Str.ofString "codes") = some (.ref aC)
  m2 : m (Str.ofString "table") = some (.ref aT)
  m3 : m (Str.ofString "count") = some (.int k kt)
  m4 : m (Str.ofString "code") = some (.int c ct)
  m5 : m (Str.ofString "sizes") = some (.ref xS)
def PackInv (prog : Program) (w : World) (full : Int) (gs : List Int) (xS : Addr) (news : List (Addr × Obj)) (i : Nat) (m : Str → Option Value) (mt : List (Addr × Obj)) : Prop :=
  ∃ cs T k c aC cv cC aT oT xs tups kt ct, PackJ prog w full gs xS news i m mt cs T k c aC cv cC aT oT xs tups kt ct

local macro_rules | `(tactic| k_mem) => `(tactic| first | assumption | (with_reducible solve_by_elim))
local macro_rules | `(tactic| walk_at "call builtin:list.append") => `(tactic| (k_here; (with_reducible show wpAny _ _ (call (Value.builtin _) [Value.ref _, _]) _ _ _); (refine' append_K ?k1 ?k2 ?k3 ?_ ?z; (case k1 => k_asm); (case k2 => k_asm); (case k3 => exact .head (by assumption)); (case z => (simp only [Array.size_push, List.size_toArray, List.length_append, List.length_cons, List.length_nil, sizeLine_eq]; omega)); k_whole); intro h' F' N'; (try k_sweep)))
local macro_rules | `(tactic| k_get) => `(tactic| assumption)

set_option maxHeartbeats 8000000 in
theorem packed_call {w : World} {A₀ A : Around} {base h₀ : Heap} {outer : List Env} {env : Env} {L : Addr} {m mg mb : Str → Option Value} {mean : ExcName → Option Value} {news : List (Addr × Obj)} {s : Shared} {Q : Value → Shared → Prop} {E : Value → Shared → Prop}
  (B : Below A₀ base outer h₀) (F : Fr h₀ L s.heap m) (X : (hd.heap_39 w.params).In h₀) (N : News h₀ L s.heap news) (T : Top hd.view_39 LO mean mg mb h₀)
  (hA : A.frames = some (env :: outer)) (hf : env.frame = some L) (hke : env.scope.kind = .function) (hroom : A.depth < 700) (hh : A.handled = none) (hun : A.units < 9000)
  {xS dS aG : Addr} {es : List DictEntry} {n : Nat} {full : Int} {gv : List Value} {cg : Nat} {gs : List Int}
  (S : SizesAt news xS dS es n full)
  (hg : (aG, listOf gv.toArray cg) ∈ news) (hgi : IntsAre gv gs) (hgl : gs.length ≤ 50)
  (hQ : ∀ aR rv cR h' tk made, Fr h₀ L h' m → News h₀ L h' (made ++ news) → (aR, listOf rv.toArray cR) ∈ made ++ news → IntsAre rv (pack full gs [4] [] 6 (-1)) → Q (.ref aR) { s with heap := h', toks := tk })
  : wpAny (model PySem.Challenge.rw_og0129_01.row.prog w) A (call (.ref 97) [.ref xS, .ref aG]) Q E s := by
  revert X
  w_top off
  k_fill
  intro X
  refine wpAny_call ?_
  have S0 := S
  obtain ⟨s1, s2, ⟨t1, s3⟩, ⟨t2, s4⟩, ⟨t3, s5⟩, ⟨t4, s6⟩⟩ := S0
  (refine' code_def B F X N T hA hf hke ?k6 ?k7 ?k8 ?k9 ?kB ?_ ?c2 ?c3 ?c4 ?c5; (case k6 => k_is); (case k7 => k_is); (case k8 => exact Nat.lt_trans hroom (by decide)); (case k9 => first | exact BindsTo.of_eq rfl | exact binds_K (by k_in) rfl (by k_is) rfl rfl rfl | fail "k_enter: no rule for these arguments"); (case c5 => decide); (case kB => exact locs rfl); (case c2 => exact rfl); (case c3 => exact rfl); (case c4 => exact rfl); k_whole; intro g' L' h' FG' F' N' B' X' T'; (try dsimp only); (try k_lift B'); (try k_fold))
  repeat' (first | (k_unfold; (try dsimp only)) | walk1 | (dsimp only; walk1) | fail "no step")
  rename_i aC _ lC0 _ aT _ oT lo0 _ _ hiT _ lT0 _ _ _ nF nN
  refine For_invV g' rfl rfl ?_ (by intro _; with_unfolding_all rfl) (by passes_own)
  walk1
  refine iter_mut (mt := [(aT, oT), (aC, listOf #[Value.int 4 t1] 0)]) (news := news) (PackInv PySem.Challenge.rw_og0129_01.row.prog w full gs xS news) hh hg nF nN ?_ ?_ ?_
  · exact ⟨[4], [], 6, -1, aC, [Value.int 4 t1], 0, aT, oT, [], [], _, _, ⟨by rw [List.drop_zero], Nat.le_refl _, Nat.zero_le _, rfl, .cons _ _ .nil, .nil, .empty hiT, (fun p hp => nomatch hp), lC0, fun p hp => allLt_mem lT0.2 p hp, Nat.ne_of_lt lT0.1, lo0, rfl, rfl, rfl, rfl, rfl⟩⟩
  · rintro i v m₁ mt₁ hp tk I oI hv ⟨cs, T, k, c, aC, cv, cC, aT, oT, xs, tups, kt, ct, J⟩ F1 N1 hI lI cI
    obtain ⟨jrun, jcl, jtl, jmt, jci, jti, jdt, jcls, jlC, jlT, jne, jlo, jm1, jm2, jm3, jm4, jm5⟩ := J
    subst jmt
    rw [pin5 jm1 jm2 jm3 jm4 jm5] at F1
    obtain ⟨g, gt, rfl, hgi1⟩ : ∃ g gt, v = .int g gt ∧ gs[i]? = some g := by
      obtain ⟨nn, tt, e1, e2⟩ := hgi.at i v hv
      exact ⟨nn, tt, e1, e2⟩
    have hil : i < gs.length := (List.getElem?_eq_some_iff.mp hgi1).1
    have hdr := drop_at hgi1
    have s1' : (xS, instObj 86 dS) ∈ (aT, oT) :: (aC, listOf cv.toArray cC) :: tups ++ (I, oI) :: news := List.mem_append_right _ (.tail _ s1)
    have s2' : (dS, dictOf es n) ∈ (aT, oT) :: (aC, listOf cv.toArray cC) :: tups ++ (I, oI) :: news := List.mem_append_right _ (.tail _ s2)
    have hrC : ∀ p ∈ (I, oI) :: news, p.1 ≠ aC := fun p hp => by
      rcases List.mem_cons.mp hp with rfl | hp
      · exact (hI _ (.tail _ (.head _))).symm
      · exact Nat.ne_of_lt (jlC p hp)
    have hrT : ∀ p ∈ (I, oI) :: news, p.1 ≠ aT := fun p hp => by
      rcases List.mem_cons.mp hp with rfl | hp
      · exact (hI _ (.head _)).symm
      · exact Nat.ne_of_lt (jlT p hp)
    have huA : A.units + 4 < cLine := by show _ < 9900; omega
    have hcv := jci.length
    have hxs := jti.len
    have clsOf : ∀ {oT' : Obj} {cv' : List Value} {cC' : Nat} {tups' : List (Addr × Obj)}, oT'.cls = .type "dict" → (∀ p ∈ tups', p.2.cls = .type "tuple") → ∀ p ∈ (aT, oT') :: (aC, listOf cv'.toArray cC') :: tups', p.2.cls ≠ .type "list_iterator" := by
      intro oT' cv' cC' tups' h1 h2 p hp
      rcases List.mem_cons.mp hp with rfl | hp
      · rw [h1]; exact diNe
      · rcases List.mem_cons.mp hp with rfl | hp
        · exact liNe
        · rw [h2 p hp]; exact tiNe
    by_cases hc0 : c < 0
    · repeat' (first | (k_unfold; (try dsimp only)) | walk1 | (dsimp only; walk1) | fail "no step")
      (with_reducible rename Fr _ L' _ _ => nF)
      (with_reducible rename News _ L' _ _ => nN)
      show MutNext _ _ _ _ _ _
      refine ⟨_, _, _, (aT, oT) :: (aC, listOf cv.toArray cC) :: tups, rfl, nF, nN, clsOf jdt.ex.1 jcls, cs, T, k, g, aC, cv, cC, aT, oT, xs, tups, kt, gt, ?_⟩
      exact ⟨by rw [jrun, hdr, pack, if_pos hc0], by omega, by omega, rfl, jci, jti, jdt, jcls, jlC, jlT, jne, jlo, rfl, rfl, rfl, rfl, rfl⟩
    · cases hlk : lookT T [c, g] with
      | some e =>
        obtain ⟨aK, et, hat⟩ := jti.some hlk
        repeat' (first | (k_unfold; (try dsimp only)) | walk1 | (dsimp only; walk1) | fail "no step")
        rename_i _ nF nN _ _
        refine inT (k := [c, g]) nN (.tail _ (.head _)) jdt (fun p hp => .tail _ (.tail _ (.tail _ (List.mem_append_left _ hp)))) jlo (.head _) (vs := [.int c ct, .int g gt]) (.cons _ _ (.cons _ _ .nil)) (by simp only [units_in1, units_deeper]; omega) (b := true) (by rw [hat]; rfl) fun tk2 => ?_
        repeat' (first | (k_unfold; (try dsimp only)) | walk1 | (dsimp only; walk1) | fail "no step")
        rename_i _ nF2 nN2 _ _
        refine itemT (k := [c, g]) nN2 (.tail _ (.tail _ (.head _))) jdt (fun p hp => .tail _ (.tail _ (.tail _ (.tail _ (List.mem_append_left _ hp))))) (.head _) (vs := [.int c ct, .int g gt]) (.cons _ _ (.cons _ _ .nil)) (by simp only [units_in1, units_deeper]; omega) hat (fun tk3 => ?_) (by with_unfolding_all rfl) (by intro _; with_unfolding_all rfl)
        clear nN nF
        repeat' (first | (k_unfold; (try dsimp only)) | walk1 | (dsimp only; walk1) | fail "no step")
        rename_i nF3 nN3
        show MutNext _ _ _ _ _ _
        refine ⟨_, _, _, (aT, oT) :: (aC, listOf cv.toArray cC) :: tups, rfl, nF3, News.sub' nN3 (fun p hp => .tail _ (.tail _ hp)), clsOf jdt.ex.1 jcls, cs, T, k, e, aC, cv, cC, aT, oT, xs, tups, kt, et, ?_⟩
        exact ⟨by rw [jrun, hdr, pack, if_neg hc0, hlk], by omega, by omega, rfl, jci, jti, jdt, jcls, jlC, jlT, jne, jlo, rfl, rfl, rfl, rfl, rfl⟩
      | none =>
        have hat := jti.none hlk
        repeat' (first | (k_unfold; (try dsimp only)) | walk1 | (dsimp only; walk1) | fail "no step")
        rename_i _ nF nN _ _
        refine inT (k := [c, g]) nN (.tail _ (.head _)) jdt (fun p hp => .tail _ (.tail _ (.tail _ (List.mem_append_left _ hp)))) jlo (.head _) (vs := [.int c ct, .int g gt]) (.cons _ _ (.cons _ _ .nil)) (by simp only [units_in1, units_deeper]; omega) (b := false) (by rw [hat]; rfl) fun tk2 => ?_
        repeat' (first | (k_unfold; (try dsimp only)) | walk1 | (dsimp only; walk1) | fail "no step")
        (with_reducible rename Fr _ L' _ _ => nF)
        (with_reducible rename News _ L' _ _ => nN)
        have nN2 := News.sub' nN (l' := (aC, listOf cv.toArray cC) :: (aT, oT) :: (tups ++ (I, oI) :: news)) re_swap1
        have hoffC := off_ (ob := oT) nN2 (.head _) ltNe jne.symm jcls (fun p hp => .tail _ (.tail _ (List.mem_append_left _ hp))) hrC
        clear nN
        repeat' (first | (k_unfold; (try dsimp only)) | walk1 | (dsimp only; walk1) | fail "no step")
        rename_i hp3 _ _ _ nF3 nN3 _ _
        obtain ⟨aK, haK⟩ : ∃ aK, aK = hp3.objs.size := ⟨_, rfl⟩
        dsimp only at nN3 ⊢
        rw [← haK] at nN3 ⊢
        rw [List.push_toArray] at nN3
        have nN4 := News.sub' nN3 (l' := (aT, oT) :: (aC, listOf (cv ++ [Value.int c ct]).toArray (cC + 1)) :: (((aK, tupO [Value.int c ct, Value.int g gt]) :: tups) ++ (I, oI) :: news)) re_rot
        have jcls' : ∀ p ∈ (aK, tupO [Value.int c ct, Value.int g gt]) :: tups, p.2.cls = .type "tuple" := fun p hp => by
          rcases List.mem_cons.mp hp with rfl | hp
          · rfl
          · exact jcls p hp
        have jdt' : DictT PySem.Challenge.rw_og0129_01.row.prog w oT xs ((aK, tupO [Value.int c ct, Value.int g gt]) :: tups) := ⟨jdt.ex, jdt.dat, fun x hx => let ⟨vs, e1, e2⟩ := jdt.keys x hx; ⟨vs, .tail _ e1, e2⟩, jdt.nd⟩
        have dne : oT.cls ≠ .type "tuple" := by rw [jdt.ex.1]; exact dtNe
        refine setT (k := [c, g]) nF3 nN4 (off_ nN4 (.head _) dne jne jcls' (fun p hp => .tail _ (.tail _ (List.mem_append_left _ hp))) hrT) jdt' (fun p hp => .tail _ (List.mem_append_left _ hp)) (.head _) (.cons _ _ (.cons _ _ .nil)) hat (by simp only [units_in1, units_deeper]; omega) (by omega) fun h5 o5 tk5 F5 N5 D5 => ?_
        have N6 := News.sub' N5 (l' := (aC, listOf (cv ++ [Value.int c ct]).toArray (cC + 1)) :: (aT, o5) :: (((aK, tupO [Value.int c ct, Value.int g gt]) :: tups) ++ (I, oI) :: news)) re_swap0
        have hoffC5 := off_ (ob := o5) N6 (.head _) ltNe jne.symm jcls' (fun p hp => .tail _ (.tail _ (List.mem_append_left _ hp))) hrC
        have s1'' : ∀ o, (xS, instObj 86 dS) ∈ (aC, o) :: (aT, o5) :: (((aK, tupO [Value.int c ct, Value.int g gt]) :: tups) ++ (I, oI) :: news) := fun o => .tail _ (.tail _ (List.mem_append_right _ (.tail _ s1)))
        have s2'' : ∀ o, (dS, dictOf es n) ∈ (aC, o) :: (aT, o5) :: (((aK, tupO [Value.int c ct, Value.int g gt]) :: tups) ++ (I, oI) :: news) := fun o => .tail _ (.tail _ (List.mem_append_right _ (.tail _ s2)))
        clear nN3 nN4 N5 nF3
        repeat' (first | (k_unfold; (try dsimp only)) | walk1 | (dsimp only; walk1) | fail "no step")
        · rename_i hful _ _ dN _ oN loN _ _ hiN _ lN _ _ _ nF7 nN7
          rw [List.push_toArray] at nN7
          show MutNext _ _ _ _ _ _
          refine ⟨_, _, _, (dN, oN) :: (aC, listOf (cv ++ [Value.int c ct] ++ [Value.int 4 t1]).toArray (cC + 1 + 1)) :: tups, rfl, nF7, News.sub' nN7 re_drop2, ?_, cs ++ [c] ++ [4], [], 6, g, aC, cv ++ [Value.int c ct] ++ [Value.int 4 t1], cC + 1 + 1, dN, oN, [], tups, t3, gt, ?_⟩
          · have dx : DictT PySem.Challenge.rw_og0129_01.row.prog w oN [] tups := .empty hiN
            intro p hp
            rcases List.mem_cons.mp hp with rfl | hp
            · exact (by rw [dx.ex.1]; exact diNe : oN.cls ≠ _)
            · rcases List.mem_cons.mp hp with rfl | hp
              · exact liNe
              · rw [jcls p hp]; exact tiNe
          · exact ⟨by rw [jrun, hdr, pack, if_neg hc0, hlk]; dsimp only; rw [if_pos hful], by simp only [List.length_append, List.length_cons, List.length_nil]; omega, Nat.zero_le _, rfl, (jci.append (.cons _ _ .nil)).append (.cons _ _ .nil), .nil, .empty hiN, jcls, jlC, fun p hp => allLt_mem lN.2.2 p (List.mem_append_right _ (.tail _ hp)), Nat.ne_of_lt lN.1, loN, rfl, rfl, rfl, rfl, rfl⟩
        · rename_i hful _ nF7 nN7
          show MutNext _ _ _ _ _ _
          refine ⟨_, _, _, (aT, o5) :: (aC, listOf (cv ++ [Value.int c ct]).toArray (cC + 1)) :: (aK, tupO [Value.int c ct, Value.int g gt]) :: tups, rfl, nF7, News.sub' nN7 re_swap0, clsOf D5.ex.1 jcls', cs ++ [c], T ++ [([c, g], k)], k + 1, g, aC, cv ++ [Value.int c ct], cC + 1, aT, o5, xs ++ [([c, g], aK, Value.int k kt)], (aK, tupO [Value.int c ct, Value.int g gt]) :: tups, _, gt, ⟨by rw [jrun, hdr, pack, if_neg hc0, hlk]; dsimp only; rw [if_neg hful], by simp only [List.length_append, List.length_cons, List.length_nil]; omega, by simp only [List.length_append, List.length_cons, List.length_nil]; omega, rfl, jci.append (.cons _ _ .nil), jti.snoc, D5, jcls', jlC, jlT, jne, jlo, rfl, rfl, rfl, rfl, rfl⟩⟩
  · rintro m₁ mt₁ hp tk ⟨cs, T, k, c, aC, cv, cC, aT, oT, xs, tups, kt, ct, J⟩ F1 N1
    obtain ⟨jrun, jcl, jtl, jmt, jci, jti, jdt, jcls, jlC, jlT, jne, jlo, jm1, jm2, jm3, jm4, jm5⟩ := J
    subst jmt
    rw [pin5 jm1 jm2 jm3 jm4 jm5] at F1
    dsimp only
    have s1' : ∀ o, (xS, instObj 86 dS) ∈ (aC, o) :: (aT, oT) :: (tups ++ news) := fun o => .tail _ (.tail _ (List.mem_append_right _ s1))
    have s2' : ∀ o, (dS, dictOf es n) ∈ (aC, o) :: (aT, oT) :: (tups ++ news) := fun o => .tail _ (.tail _ (List.mem_append_right _ s2))
    have nN2 := News.sub' N1 (l' := (aC, listOf cv.toArray cC) :: (aT, oT) :: (tups ++ news)) re_swap0
    have hoffC := off_ (ob := oT) nN2 (.head _) ltNe jne.symm jcls (fun p hp => .tail _ (.tail _ (List.mem_append_left _ hp))) (fun p hp => Nat.ne_of_lt (jlC p hp))
    have hgl2 := hgi.length
    have hcv := jci.length
    clear N1
    repeat' (first | (k_unfold; (try dsimp only)) | walk1 | (dsimp only; walk1) | fail "no step")
    · have hc0 : 0 ≤ c := by assumption
      (with_reducible rename Fr h₀ L _ m => kF)
      (with_reducible rename News h₀ L _ _ => kN)
      rw [List.push_toArray, List.push_toArray] at kN
      refine hQ aC _ _ _ _ ((aC, listOf (cv ++ [Value.int c ct] ++ [Value.int 5 t2]).toArray (cC + 1 + 1)) :: (aT, oT) :: tups) kF kN (.head _) ?_
      rw [jrun, hgl2, List.drop_length, pack, if_pos hc0]
      exact (jci.append (.cons _ _ .nil)).append (.cons _ _ .nil)
    · have hc0 : ¬ 0 ≤ c := by assumption
      (with_reducible rename Fr h₀ L _ m => kF)
      (with_reducible rename News h₀ L _ _ => kN)
      rw [List.push_toArray] at kN
      refine hQ aC _ _ _ _ ((aC, listOf (cv ++ [Value.int 5 t2]).toArray (cC + 1)) :: (aT, oT) :: tups) kF kN (.head _) ?_
      rw [jrun, hgl2, List.drop_length, pack, if_neg hc0]
      exact jci.append (.cons _ _ .nil)
end Mine

namespace Mine
abbrev penO (aX : Addr) (p q : Int) (tp tq : Tok) (c : Nat) : Obj := listOf [.ref aX, .int p tp, .int q tq].toArray c

section
variable {prog : Program} {w : World} {A : Around} {E : Value → Shared → Prop} {s : Shared} {h₀ : Heap} {L aP aX : Addr} {m : Str → Option Value} {rest : List (Addr × Obj)} {p q v : Int} {tp tq u t : Tok} {c : Nat}
theorem pen_set2 {Q : Unit → Shared → Prop} (F : Fr h₀ L s.heap m) (N : News h₀ L s.heap ((aP, penO aX p q tp tq c) :: rest)) (off : ∀ z ∈ rest, z.1 ≠ aP) (hv : 0 ≤ v)
    (h : ∀ v' t' h', 0 ≤ v' → Fr h₀ L h' m → News h₀ L h' ((aP, penO aX p v' tp t' c) :: rest) → Q () { s with heap := h' }) : wpAny (model prog w) A (setItem (.ref aP) (.int 2 t) (.int v u)) Q E s :=
  ki_set F N (by decide) (by decide) rfl (.head off) fun h' F' N' => h v u h' hv F' N'
theorem pen_set1 {Q : Unit → Shared → Prop} (F : Fr h₀ L s.heap m) (N : News h₀ L s.heap ((aP, penO aX p q tp tq c) :: rest)) (off : ∀ z ∈ rest, z.1 ≠ aP) (hp : 0 ≤ p)
    (h : ∀ v' t' h', 0 ≤ v' → v' ≤ p + 1 → 0 ≤ 7919 * v' * v' → Fr h₀ L h' m → News h₀ L h' ((aP, penO aX v' q t' tq c) :: rest) → Q () { s with heap := h' }) : wpAny (model prog w) A (setItem (.ref aP) (.int 1 t) (.int (p + 1) u)) Q E s :=
  ki_set F N (by decide) (by decide) rfl (.head off) fun h' F' N' => h (p + 1) u h' (by omega) (Int.le_refl _) (Int.mul_nonneg (by omega) (by omega)) F' N'
end

local macro_rules | `(tactic| k_mem) => `(tactic| first | assumption | (with_reducible solve_by_elim))
local macro_rules | `(tactic| k_get) => `(tactic| assumption)
local macro_rules | `(tactic| walk_at "call builtin:len") => `(tactic| (k_here; (with_reducible show wpAny _ _ (call (Value.builtin "len") [Value.ref _]) _ _ _); (refine' len_list (News.isList ?N ?m) ?f ?_); (case N => k_asm); (case m => first | k_mem | exact .tail _ (by assumption)); (case f => (rw [List.size_toArray]; omega)); k_whole; (try simp only [List.size_toArray])))
local macro_rules | `(tactic| walk_at "binaryOp Mod int int") => `(tactic| (k_here; (with_reducible refine mod_int' (by assumption) ?_)))
local macro_rules | `(tactic| walk_at "binaryOp FloorDiv int int") => `(tactic| (k_here; (with_reducible refine floordiv_int (by assumption) ?_ (Or.inl (PyProof.noPylong_of_log2 (by assumption))))))
local macro_rules | `(tactic| walk_at "subscriptTail") => `(tactic| (k_here; (with_reducible show wpAny _ _ (subscriptTail _ _ (Value.ref _) (Value.int (Int.fmod _ _) _)) _ _ _); (refine' PySem.W.ksa_sub ?N ?m ?i ?a ?b ?c ?_ ?d; (case N => k_asm); (case m => exact .tail _ (by assumption)); (case i => assumption); (case a => assumption); (case b => assumption); (case c => assumption); (case d => with_unfolding_all rfl)); intro tC))
local macro_rules | `(tactic| walk_at "setItem ref int") => `(tactic| (k_here; first
  | ((with_reducible show wpAny _ _ (setItem (Value.ref _) (Value.int 2 _) _) _ _ _); (refine' pen_set2 ?F ?N ?o ?v ?_; (case F => k_asm); (case N => k_asm); (case o => assumption); (case v => first | exact Int.fdiv_nonneg (by assumption) (by assumption) | omega | (split <;> omega) | (split <;> split <;> omega))); intro v' t' h' nn' F' N')
  | ((with_reducible show wpAny _ _ (setItem (Value.ref _) (Value.int 1 _) _) _ _ _); (refine' pen_set1 ?F ?N ?o ?p ?_; (case F => k_asm); (case N => k_asm); (case o => assumption); (case p => assumption)); intro v' t' h' nn1' nn2' nn3' F' N')))

set_option maxHeartbeats 8000000 in
theorem draw_call {w : World} {A₀ A : Around} {base h₀ : Heap} {outer : List Env} {env : Env} {L : Addr} {m mg mb : Str → Option Value} {mean : ExcName → Option Value} {rest : List (Addr × Obj)} {s : Shared} {Q : Value → Shared → Prop} {E : Value → Shared → Prop}
  {aP aX : Addr} {p q many : Int} {tp tq tm : Tok} {c cx : Nat} {xv : List Value} {xs : List Int}
  (B : Below A₀ base outer h₀) (F : Fr h₀ L s.heap m) (X : (hd.heap_39 w.params).In h₀) (N : News h₀ L s.heap ((aP, penO aX p q tp tq c) :: rest)) (T : Top hd.view_39 LO mean mg mb h₀)
  (hA : A.frames = some (env :: outer)) (hf : env.frame = some L) (hke : env.scope.kind = .function) (hroom : A.depth < 700) (hh : A.handled = none)
  (off : ∀ z ∈ rest, z.1 ≠ aP) (hx : (aX, listOf xv.toArray cx) ∈ rest) (hxi : IntsAre xv xs) (hxl : xs.length ≤ 1000) (hxp : 0 < xs.length) (hp : 0 ≤ p) (hp2 : p ≤ 1000) (hq : 0 ≤ q) (hm : 0 < many) (hm2 : many ≤ 1000)
  (hQ : ∀ d td p' q' tp' tq' h' tk, 0 ≤ d → d < many → 0 ≤ p' → p' ≤ p + 1 → 0 ≤ q' → Fr h₀ L h' m → News h₀ L h' ((aP, penO aX p' q' tp' tq' c) :: rest) → Q (.int d td) { s with heap := h', toks := tk })
  : wpAny (model PySem.Challenge.rw_og0129_01.row.prog w) A (call (.ref 118) [.ref aP, .int many tm]) Q E s := by
  revert X
  w_top off
  k_fill
  intro X
  refine wpAny_call ?_
  (refine' code_def B F X N T hA hf hke ?k6 ?k7 ?k8 ?k9 ?kB ?_ ?c2 ?c3 ?c4 ?c5; (case k6 => k_is); (case k7 => k_is); (case k8 => exact Nat.lt_trans hroom (by decide)); (case k9 => first | exact BindsTo.of_eq rfl | exact binds_K (by k_in) rfl (by k_is) rfl rfl rfl | fail "k_enter: no rule for these arguments"); (case c5 => decide); (case kB => exact locs rfl); (case c2 => exact rfl); (case c3 => exact rfl); (case c4 => exact rfl); k_whole; intro g' L' h' FG' F' N' B' X' T'; (try dsimp only); (try k_lift B'); (try k_fold))
  have hxv := hxi.length
  have hlen0 : (xv.length : Int) ≠ 0 := by omega
  have hm0 : many ≠ 0 := by omega
  have hmn : 0 ≤ many := by omega
  have hmlog : many.natAbs.log2 < 9000 := by
    have : many.natAbs < 2 ^ 10 := by omega
    exact Nat.lt_of_lt_of_le ((Nat.log2_lt (by omega)).mpr this) (by omega)
  have hf0 : 0 ≤ p.fmod (xv.length : Int) := Int.fmod_nonneg_of_pos _ (by omega)
  have hf1 : p.fmod (xv.length : Int) < xs.length := by rw [← hxv]; exact Int.fmod_lt_of_pos _ (by omega)
  have hf2 : p.fmod (xv.length : Int) < 2 ^ 63 := Int.lt_trans hf1 (by omega)
  repeat' (first | (k_unfold; (try dsimp only)) | (walk1; (try dsimp only)) | fail "no step")
  all_goals (with_reducible rename Fr h₀ L _ m => kF)
  all_goals (with_reducible rename News h₀ L _ _ => kN)
  all_goals exact hQ _ _ _ _ _ _ _ _ (Int.fmod_nonneg_of_pos _ (by assumption)) (Int.fmod_lt_of_pos _ (by assumption)) (by assumption) (by omega) (by assumption) kF kN
end Mine

namespace Mine
theorem sizesAt_made {rest : List (Addr × Obj)} {xS dS : Addr} {g1 g2 g3 g4 g5 g6 g7 : Int} {k1 k2 k3 k4 k5 k6 k7 t4 t5 t6 t7 : Tok} {v1 v2 v3 : Value} {d1 : Int} (h0 : 0 ≤ d1) (h2 : d1 < 2) (m1 : (xS, instObj 86 dS) ∈ rest)
    (m2 : (dS, dictOf [⟨g1, .str (Str.ofString "bits") k1, v1⟩, ⟨g2, .str (Str.ofString "widest") k2, v2⟩, ⟨g3, .str (Str.ofString "early") k3, v3⟩, ⟨g4, .str (Str.ofString "clear") k4, .int (1 * 2 ^ Int.toNat 2) t4⟩,
      ⟨g5, .str (Str.ofString "end") k5, .int (1 * 2 ^ Int.toNat 2 + 1) t5⟩, ⟨g6, .str (Str.ofString "first") k6, .int (1 * 2 ^ Int.toNat 2 + 2) t6⟩, ⟨g7, .str (Str.ofString "full") k7, .int (1 * 2 ^ (3 + d1).toNat) t7⟩] 7) ∈ rest) :
    ∃ es full, (full = 8 ∨ full = 16) ∧ SizesAt rest xS dS es 7 full := by
  refine ⟨_, 1 * 2 ^ (3 + d1).toNat, ?_, m1, m2, ⟨t4, rfl⟩, ⟨t5, rfl⟩, ⟨t6, rfl⟩, ⟨t7, rfl⟩⟩
  rcases (by omega : d1 = 0 ∨ d1 = 1) with rfl | rfl
  · left; decide
  · right; decide
theorem absN {h₀ h : Heap} {L : Addr} {x d p : Addr × Obj} {post : List (Addr × Obj)} (N : News h₀ L h (x :: d :: p :: post)) (hx : p.1 < x.1) (hd : p.1 < d.1) (hp : ∀ q ∈ post, q.1 < p.1) :
    ∃ rest, News h₀ L h (p :: rest) ∧ (∀ z ∈ rest, z.1 ≠ p.1) ∧ x ∈ rest ∧ d ∈ rest ∧ ∀ q ∈ post, q ∈ rest := by
  refine ⟨x :: d :: post, News.sub' N (fun q hq => ?_), fun z hz => ?_, .head _, .tail _ (.head _), fun q hq => .tail _ (.tail _ hq)⟩
  · rcases List.mem_cons.mp hq with rfl | hq
    · exact .tail _ (.tail _ (.head _))
    · rcases List.mem_cons.mp hq with rfl | hq
      · exact .head _
      · rcases List.mem_cons.mp hq with rfl | hq
        · exact .tail _ (.head _)
        · exact .tail _ (.tail _ (.tail _ hq))
  · rcases List.mem_cons.mp hz with rfl | hz
    · exact (Nat.ne_of_lt hx).symm
    · rcases List.mem_cons.mp hz with rfl | hz
      · exact (Nat.ne_of_lt hd).symm
      · exact Nat.ne_of_lt (hp z hz)

theorem re_pull2 {α : Type} {a b p : α} {r : List α} : ∀ z ∈ p :: a :: b :: r, z ∈ a :: b :: p :: r := by grind
theorem off_pull2 {h₀ h : Heap} {L : Addr} {x d p : Addr × Obj} {post : List (Addr × Obj)} (_ : News h₀ L h (x :: d :: p :: post)) (hx : p.1 < x.1) (hd : p.1 < d.1) (hp : ∀ q ∈ post, q.1 < p.1) : ∀ z ∈ x :: d :: post, z.1 ≠ p.1 := fun z hz => by
  rcases List.mem_cons.mp hz with rfl | hz
  · exact (Nat.ne_of_lt hx).symm
  · rcases List.mem_cons.mp hz with rfl | hz
    · exact (Nat.ne_of_lt hd).symm
    · exact Nat.ne_of_lt (hp z hz)
theorem N4m0 {h₀ h : Heap} {L : Addr} {x d p : Addr × Obj} {post : List (Addr × Obj)} (_ : News h₀ L h (p :: x :: d :: post)) : x ∈ x :: d :: post := .head _
theorem N4m1 {h₀ h : Heap} {L : Addr} {x d p : Addr × Obj} {post : List (Addr × Obj)} (_ : News h₀ L h (p :: x :: d :: post)) : d ∈ x :: d :: post := .tail _ (.head _)
theorem re_pull3 {α : Type} {a b c p : α} {r : List α} : ∀ z ∈ p :: a :: b :: c :: r, z ∈ a :: b :: c :: p :: r := by grind
theorem re_push3 {α : Type} {a b c p : α} {r : List α} : ∀ z ∈ a :: b :: c :: p :: r, z ∈ p :: a :: b :: c :: r := by grind
section
variable {prog : Program} {w : World} {A : Around} {s : Shared} {h₀ : Heap} {L : Addr} {m : Str → Option Value} {env : Env}
theorem compRest_ind {elt : PySem.Expr} {x : Str} {scope : Scope} {cl : List (Str × Addr)} {S : List (Addr × Obj) → Prop} {P : Nat → Value → Prop} {Fin : List Value → List (Addr × Obj) → Prop} {n : Nat} (J : Nat → List Value → List (Addr × Obj) → Prop)
    (turn : ∀ i ys news v I oI C oC D m₂ h tk (E' : Value → Shared → Prop), i < n → J i ys news → P i v → LCg.NsObj oC m₂ → m₂ x = some v → Fr h₀ L h m → News h₀ L h ((I, oI) :: (C, oC) :: (D, LCg.lst ys) :: news) → LCg.Off3 I C D news → ((@Ne Nat I C) ∧ (@Ne Nat I D) ∧ (@Ne Nat C D)) →
      wpAny (model prog w) A (eval elt (compEnvC scope cl C env)) (LCg.CompEnd h₀ L m { s with heap := h, toks := tk } I oI C oC D (LCg.lst ys) S (fun y news' => J (i + 1) (ys ++ [y]) news')) E' { s with heap := h, toks := tk })
    (fin : ∀ ys news, J n ys news → Fin ys news) : ∀ k i ys news, i + k = n → J i ys news → LCg.CompRest prog w A h₀ L m env elt x scope cl s S P Fin k i ys news := by
  intro k
  induction k with
  | zero =>
    intro i ys news hi hj
    have : i = n := by omega
    subst this
    exact LCg.CompRest.zero (fin ys news hj)
  | succ k ih =>
    intro i ys news hi hj
    refine LCg.CompRest.succ fun v I oI C oC D m₂ h tk E' hP hN hx F N off ne => ?_
    refine wpAny_mono (turn i ys news v I oI C oC D m₂ h tk E' (by omega) hj hP hN hx F N off ne) (fun y s₂ hy => ?_) fun _ _ e => e
    obtain ⟨h', tk', news', e, F', N', off', hS, r⟩ := hy
    exact ⟨h', tk', news', e, F', N', off', hS, ih (i + 1) (ys ++ [y]) news' (by omega) r⟩
end
theorem small7 {d : Int} (h0 : 0 ≤ d) (h7 : d < 7) : Builtin.Range.small 0 (1 + d) 1 = true := by
  rcases (by omega : d = 0 ∨ d = 1 ∨ d = 2 ∨ d = 3 ∨ d = 4 ∨ d = 5 ∨ d = 6) with rfl | rfl | rfl | rfl | rfl | rfl | rfl <;> decide
theorem rsize7 {d : Int} (h0 : 0 ≤ d) (h7 : d < 7) : Builtin.Range.rangeSize 0 (1 + d) 1 = (((1 + d).toNat : Nat) : Int) := by
  rcases (by omega : d = 0 ∨ d = 1 ∨ d = 2 ∨ d = 3 ∨ d = 4 ∨ d = 5 ∨ d = 6) with rfl | rfl | rfl | rfl | rfl | rfl | rfl <;> decide
/-- the signs comprehension, turn by turn -/
def SgJ (aP aX : Addr) (rest : List (Addr × Obj)) (i : Nat) (ys : List Value) (nw : List (Addr × Obj)) : Prop :=
  ∃ p q tp tq sg, nw = (aP, penO aX p q tp tq 0) :: rest ∧ IntsAre ys sg ∧ sg.length = i ∧ (∀ s ∈ sg, 0 ≤ s ∧ s < 4) ∧ 0 ≤ p ∧ p ≤ 10 + (i : Int) ∧ 0 ≤ q


def fnParts : Stmt → Option (Str × List Stmt × Scope)
  | .FunctionDef n _ b _ _ _ sc _ _ _ => some (n, b, sc)
  | _ => none
def lawParts : List Stmt → Option (Str × List Stmt × Scope)
  | [] => none
  | st :: r => match lawParts r with
    | some x => some x
    | none => match fnParts st with
      | some x => some x
      | none => none
noncomputable def lawStmts (k : Nat) : List Stmt := (((lawParts PySem.Challenge.pw_og0129_01.main.body).getD default).2.1).drop k
noncomputable def lawScope : Scope := ((lawParts PySem.Challenge.pw_og0129_01.main.body).getD default).2.2
noncomputable def lawEnv (L a : Addr) (cd : Value) : Env := envOfC (Str.ofString "law") lawScope L a cd

/-- the neighbours, two by two -/
def pairs : List Int → List (List Int)
  | a :: b :: r => [a, b] :: pairs (b :: r)
  | _ => []

/-- what stands when the signs and the codes stand -/
structure LSt (h₀ : Heap) (L : Addr) (h : Heap) (m : Str → Option Value) (base : List (Addr × Obj)) (xS dS : Addr) (es : List DictEntry) (full : Int) (aG : Addr) (gv : List Value) (cg : Nat) (sg : List Int) (aC : Addr) (cv : List Value) (cc : Nat) (oc : Obj) : Prop where
  F : Fr h₀ L h m
  N : News h₀ L h base
  SZ : SizesAt base xS dS es 7 full
  hfull : full = 8 ∨ full = 16
  mG : (aG, listOf gv.toArray cg) ∈ base
  iG : IntsAre gv sg
  len1 : 1 ≤ sg.length
  len7 : sg.length ≤ 7
  sgb : ∀ s ∈ sg, 0 ≤ s ∧ s < 4
  mC : (aC, listOf cv.toArray cc) ∈ base
  iC : IntsAre cv (4 :: sg)
  mCell : (L + 1 + 1, oc) ∈ base
  dCell : oc.data = .cell (some (.ref aG))
  n1 : m (Str.ofString "codes") = some (.ref aC)
  n2 : m (Str.ofString "sizes") = some (.ref xS)
end Mine

namespace Mine
theorem pin2 {m : Str → Option Value} {a b : Str} {va vb : Value} (ha : m a = some va) (hb : m b = some vb) : m = fun y => if y = a then some va else if y = b then some vb else m y := by
  funext y
  by_cases h1 : y = a
  · subst h1; simp [ha]
  · by_cases h2 : y = b
    · subst h2; simp [hb, h1]
    · simp [h1, h2]
theorem small7' {gv : List Value} {sg : List Int} (e : gv.length = sg.length) (h1 : 1 ≤ sg.length) (h7 : sg.length ≤ 7) : Builtin.Range.small 0 ((gv.length : Int) - 1) 1 = true := by
  rw [e]
  generalize sg.length = n at h1 h7
  rcases (by omega : n = 1 ∨ n = 2 ∨ n = 3 ∨ n = 4 ∨ n = 5 ∨ n = 6 ∨ n = 7) with rfl | rfl | rfl | rfl | rfl | rfl | rfl <;> decide
theorem rsize7' {gv : List Value} {sg : List Int} (e : gv.length = sg.length) (h1 : 1 ≤ sg.length) (h7 : sg.length ≤ 7) : Builtin.Range.rangeSize 0 ((gv.length : Int) - 1) 1 = ((sg.length - 1 : Nat) : Int) := by
  rw [e]
  generalize sg.length = n at h1 h7
  rcases (by omega : n = 1 ∨ n = 2 ∨ n = 3 ∨ n = 4 ∨ n = 5 ∨ n = 6 ∨ n = 7) with rfl | rfl | rfl | rfl | rfl | rfl | rfl <;> decide
theorem re_tup {α : Type} {a i c d x : α} {r q : List α} : ∀ z ∈ i :: c :: d :: (a :: r ++ q), z ∈ a :: x :: i :: c :: d :: (r ++ q) := by grind
theorem pairs_get : ∀ {sg : List Int} {i : Nat} (h : i + 1 < sg.length), (pairs sg)[i]? = some [sg[i], sg[i + 1]]
  | _ :: _ :: _, 0, _ => rfl
  | _ :: b :: r, i + 1, h => by
    show (pairs (b :: r))[i]? = _
    rw [pairs_get (sg := b :: r) (i := i) (by simpa using h)]
    rfl
theorem pairs_take {sg : List Int} {i : Nat} (h : i + 1 < sg.length) : (pairs sg).take (i + 1) = (pairs sg).take i ++ [[sg[i], sg[i + 1]]] := by
  rw [List.take_add_one, pairs_get h]; rfl
theorem pairs_len : ∀ {sg : List Int}, (pairs sg).length = sg.length - 1
  | [] => rfl
  | [_] => rfl
  | _ :: b :: r => by
    show (pairs (b :: r)).length + 1 = _
    rw [pairs_len]; simp
theorem WordsAre.take {l : List (Addr × Obj)} {wv : List Value} {ws : List (List Int)} (h : WordsAre l wv ws) (k : Nat) : WordsAre l (wv.take k) (ws.take k) := by
  refine ⟨by rw [List.length_take, List.length_take, h.1], fun i v e => ?_⟩
  rw [List.getElem?_take] at e
  split at e
  · rename_i q
    obtain ⟨x, e1, e2⟩ := h.2 i v e
    exact ⟨x, by rw [List.getElem?_take, if_pos q]; exact e1, e2⟩
  · cases e
theorem words_pick {vs : List Value} {y : Int} (h : 0 ≤ y) : (slicePick vs.toArray none (some y) none).toList = vs.take y.toNat := by
  rw [kms_pick_eq]
  unfold kms_pick kms_lo kms_hi
  simp only [if_neg (by omega : ¬ y < 0), List.drop_zero, Nat.sub_zero]
  rw [List.take_eq_take_min, List.take_eq_take_min (i := y.toNat)]
  simp
section
variable {prog : Program} {w : World} {A : Around} {E : Value → Shared → Prop} {s : Shared} {h₀ : Heap} {L b : Addr} {m : Str → Option Value} {news : List (Addr × Obj)} {vs : List Value} {n : Nat}
theorem tupleK {Q : Value → Shared → Prop} (F : Fr h₀ L s.heap m) (N : News h₀ L s.heap news) (hb : (b, listOf vs.toArray n) ∈ news) (hz : vs.length ≤ sizeLine)
    (h : ∀ D h', Fr h₀ L h' m → News h₀ L h' ((D, tupO vs) :: news) → (∀ p ∈ news, p.1 < D) → Q (.ref D) { s with heap := h' }) : wpAny (model prog w) A (call (.type "tuple") [.ref b]) Q E s :=
  call_tuple_list (News.isList N hb) (fun h' hk => h _ _ ((F.keeps hk).push _) (News.push (F.keeps hk) (N.grown hk) _) fun p hp => Heap.lt_size (N.grown hk p hp).1) (by rw [List.size_toArray]; exact hz)
end
def WdJ (base : List (Addr × Obj)) (sg : List Int) (i : Nat) (ys : List Value) (nw : List (Addr × Obj)) : Prop := ∃ tups, nw = tups ++ base ∧ WordsAre nw ys ((pairs sg).take i)
local macro_rules | `(tactic| k_mem) => `(tactic| assumption)
local macro_rules | `(tactic| k_get) => `(tactic| assumption)
local macro_rules | `(tactic| walk_at "call builtin:len") => `(tactic| (k_here; (with_reducible show wpAny _ _ (call (Value.builtin "len") [Value.ref _]) _ _ _); (refine' len_list (News.isList ?N ?m) ?f ?_); (case N => k_asm); (case m => first | k_mem | exact .tail _ (by assumption)); (case f => (rw [List.size_toArray]; omega)); k_whole; (try simp only [List.size_toArray])))
set_option maxHeartbeats 8000000 in
theorem law_words {w : World} {h₀ : Heap} {L fa wc : Addr} {m mg mb : Str → Option Value} {mean : ExcName → Option Value} {base : List (Addr × Obj)} {s : Shared} {Q : Flow → Shared → Prop} {E : Value → Shared → Prop}
  (K0 : Below callerA h₀ [] h₀) (KX : (hd.heap_39 w.params).In h₀) (TT : Top hd.view_39 LO mean mg mb h₀)
  {xS dS aG aC : Addr} {es : List DictEntry} {full : Int} {gv cv : List Value} {cg cc : Nat} {sg : List Int} {oc : Obj}
  (S : LSt h₀ L s.heap m base xS dS es full aG gv cg sg aC cv cc oc)
  (next : ∀ m' base' h' tk aW wv cw, LSt h₀ L h' m' base' xS dS es full aG gv cg sg aC cv cc oc → (aW, listOf wv.toArray cw) ∈ base' → WordsAre base' wv ((pairs sg).take (full - 6).toNat) → m' (Str.ofString "words") = some (.ref aW) →
    wpAny (model PySem.Challenge.rw_og0129_01.row.prog w) (callerA.deeper (lawEnv L fa (.ref wc))) (execs (lawStmts 5) (lawEnv L fa (.ref wc))) Q E { s with heap := h', toks := tk }) :
  wpAny (model PySem.Challenge.rw_og0129_01.row.prog w) (callerA.deeper (lawEnv L fa (.ref wc))) (execs (lawStmts 4) (lawEnv L fa (.ref wc))) Q E s := by
  obtain ⟨F, N, SZ, hfull, mG, iG, len1, len7, sgb, mC, iC, mCell, dCell, n1, n2⟩ := S
  have hgv := iG.length
  rw [pin2 n1 n2] at F
  unfold lawEnv
  conv in (lawStmts 4) => whnf
  conv in (occs := *) lawScope => all_goals whnf
  revert KX
  w_top off
  k_fill
  intro KX
  repeat' (first | (k_unfold; (try dsimp only)) | ((fail_if_success (with_reducible show wpAny _ _ (eval (PySem.Expr.ListComp _ _ _ _) _) _ _ _)); walk1; (try dsimp only)) | fail "no step")
  refine LCg.ListComp_U (F₀ := by k_asm) (by rfl) (by decide) (by rfl) (by decide) (by rfl) ?_
  repeat' (first | (k_unfold; (try dsimp only)) | ((fail_if_success (with_reducible show LCg.CompSrc _ _ _ _ _ _ _ _ _ _ _ _ _ _)); walk1; (try dsimp only)) | fail "no step")
  rename_i hR F1 N1 _
  refine LCg.CompSrc.range (n := sg.length - 1) rfl F1 N1 hR (small7' hgv len1 len7) (rsize7' hgv len1 len7) (by rw [sizeLine_eq]; omega) fun g => ?_
  refine compRest_ind (WdJ base sg) ?_ ?_ _ 0 [] _ (Nat.zero_add _) ⟨[], rfl, ⟨rfl, fun i v e => by simp at e⟩⟩
  · rintro i ys nw v I oI C oC D m₂ h tk E' hin ⟨tups, rfl, hW⟩ ⟨tv, rfl⟩ hNs hmx F7 N7 off7 ne7
    clear F1 N1
    have mG' : (aG, listOf gv.toArray cg) ∈ (I, oI) :: (C, oC) :: (D, LCg.lst ys) :: (tups ++ base) := .tail _ (.tail _ (.tail _ (List.mem_append_right _ mG)))
    have mCell' : (L + 1 + 1, oc) ∈ (I, oI) :: (C, oC) :: (D, LCg.lst ys) :: (tups ++ base) := .tail _ (.tail _ (.tail _ (List.mem_append_right _ mCell)))
    repeat' (first | (k_unfold; (try dsimp only)) | (walk1; (try dsimp only)) | fail "no step")
    refine kmk_slice_ints (s := ⟨h, _, _, _, _⟩) F7 N7 (News.isList N7 mG') (.int _ _) (.int _ _) iG (kmk_run (x := 0 + (i : Int)) (y := 0 + (i : Int) + 2) iG (by omega) (by omega)) rfl (fun D' us h' F8 N8 l8 hus hc8 hle8 => ?_) (by with_unfolding_all rfl) (by intro _; with_unfolding_all rfl) (by rw [List.size_toArray, sizeLine_eq]; omega)
    have mD' : (D', listOf us.toArray 0) ∈ (D', listOf us.toArray 0) :: (I, oI) :: (C, oC) :: (D, LCg.lst ys) :: (tups ++ base) := .head _
    repeat' (first | (k_unfold; (try dsimp only)) | ((fail_if_success (with_reducible show wpAny _ _ (call (Value.type "tuple") _) _ _ _)); walk1; (try dsimp only)) | fail "no step")
    have hul := hus.length
    refine tupleK F8 N8 mD' (by rw [hul, sizeLine_eq]; omega) fun aT hT FT NT lT => ?_
    have hus2 : IntsAre us [sg[i]'(by omega), sg[i + 1]'(by omega)] := by
      rw [show (0 + (i : Int) + 2).toNat = i + 2 by omega, show (0 + (i : Int)).toNat = i by omega, show min (i + 2) sg.length - i = 2 by omega, List.drop_eq_getElem_cons (by omega), List.drop_eq_getElem_cons (by omega)] at hus
      exact hus
    refine LCg.CompEnd.intro FT (News.sub' NT (l' := (I, oI) :: (C, oC) :: (D, LCg.lst ys) :: ((aT, tupO us) :: tups ++ base)) re_tup) ((aT, tupO us) :: tups ++ base) (fun _ h => h) ⟨⟨(Nat.ne_of_lt (lT _ (.tail _ (.head _)))).symm, (Nat.ne_of_lt (lT _ (.tail _ (.tail _ (.head _))))).symm, (Nat.ne_of_lt (lT _ (.tail _ (.tail _ (.tail _ (.head _)))))).symm⟩, off7⟩ trivial ⟨(aT, tupO us) :: tups, rfl, ?_⟩
    rw [pairs_take (by omega)]
    exact (hW.mono fun p hp => .tail _ hp).snoc ⟨aT, us, rfl, .head _, hus2⟩
  · rintro ys nw ⟨tups, rfl, hW⟩
    intro aT h9 tk9 F9 N9 o9
    clear F1 N1
    have s1 : (xS, instObj 86 dS) ∈ (aT, LCg.lst ys) :: (tups ++ base) := .tail _ (List.mem_append_right _ SZ.obj)
    have s2 : (dS, dictOf es 7) ∈ (aT, LCg.lst ys) :: (tups ++ base) := .tail _ (List.mem_append_right _ SZ.dct)
    obtain ⟨t3, s3⟩ := SZ.first
    obtain ⟨t4, s4⟩ := SZ.full
    repeat' (first | (k_unfold; (try dsimp only)) | ((fail_if_success (with_reducible show wpAny _ _ (subscriptTail (PySem.Expr.Name _ _) _ _ _) _ _ _)); walk1; (try dsimp only)) | fail "no step")
    have mT : (aT, LCg.lst ys) ∈ (aT, LCg.lst ys) :: (tups ++ base) := .head _
    have hyl : ys.length = sg.length - 1 := by rw [hW.1, List.length_take, pairs_len]; omega
    refine kmk_slice_lit (s := ⟨h9, _, _, _, _⟩) F9 N9 (News.isList N9 mT) .none (.int _ _) (words_pick (by rcases hfull with h | h <;> omega)) (fun aW h' F8 N8 l8 => ?_) (by with_unfolding_all rfl) (by intro _; with_unfolding_all rfl) (by rw [List.size_toArray, sizeLine_eq]; omega)
    repeat' (first | (k_unfold; (try dsimp only)) | ((fail_if_success (with_reducible show wpAny _ _ (execs (PySem.Stmt.For _ _ _ _ _ :: _) _) _ _ _)); walk1; (try dsimp only)) | fail "no step")
    (with_reducible rename Fr h₀ _ _ _ => FF)
    (with_reducible rename News h₀ _ _ _ => NN)
    have up : ∀ p ∈ base, p ∈ (aW, listOf (ys.take (full - 6).toNat).toArray 0) :: (aT, LCg.lst ys) :: (tups ++ base) := fun p hp => .tail _ (.tail _ (List.mem_append_right _ hp))
    refine next _ _ _ _ aW (ys.take (full - 6).toNat) 0 ⟨FF, NN, SZ.mono up, hfull, up _ mG, iG, len1, len7, sgb, up _ mC, iC, up _ mCell, dCell, rfl, rfl⟩ (.head _) ?_ rfl
    rw [List.take_of_length_le (by rw [pairs_len]; omega)] at hW
    exact (hW.take _).mono fun p hp => .tail _ (.tail _ hp)
end Mine

namespace Mine

def KeepNext (h₀ : Heap) (L : Addr) (Jn : (Str → Option Value) → Prop) (keep : List (Addr × Obj)) (s₁ s₂ : Shared) : Prop :=
  ∃ h' tk m', s₂ = { s₁ with heap := h', toks := tk } ∧ Fr h₀ L h' m' ∧ News h₀ L h' keep ∧ Jn m'
def KeepPost (h₀ : Heap) (L : Addr) (Jn : (Str → Option Value) → Prop) (keep : List (Addr × Obj)) (s₁ : Shared) (Q : Flow → Shared → Prop) (f : Flow) (s₂ : Shared) : Prop :=
  match f with
  | .ret v => Q (.ret v) s₂
  | .brk => Q .next s₂
  | _ => KeepNext h₀ L Jn keep s₁ s₂

section
variable {prog : Program} {w : World} {A : Around} {E : Value → Shared → Prop} {s : Shared} {env : Env} {h₀ : Heap} {x : Str} {body : List Stmt} {Q : Flow → Shared → Prop}

/-- a loop whose turns leave the ledger as it is -/
theorem iterK {I : Addr} {fp : List Addr} {n : Nat} {P : Nat → Value → Prop} {St : Nat → Heap → Prop} {news : List (Addr × Obj)} {m₀ : Str → Option Value} (J : Nat → (Str → Option Value) → Prop)
    (W : Walks prog w A I fp [I] n P St) (hfp : ∀ b ∈ fp, b = I ∨ ∃ o, (b, o) ∈ news) (hI : I ∈ fp) (hst : St 0 s.heap) (F : Fr h₀ env.locals s.heap m₀) (N : News h₀ env.locals s.heap news)
    (hIn : ∀ p ∈ news, p.1 ≠ I) (hI0 : h₀.get? I = none) (hIL : env.locals ≠ I) (hIo : ∀ i h, St i h → ∃ o, h.get? I = some o) (hj : J 0 m₀)
    (turn : ∀ i v m₁ h tk oI, i < n → P i v → J i m₁ → Fr h₀ env.locals h (fun y => if y = x then some v else m₁ y) → News h₀ env.locals h ((I, oI) :: news) →
      wpAny (model prog w) A (execs body env) (KeepPost h₀ env.locals (J (i + 1)) ((I, oI) :: news) { s with heap := h, toks := tk } Q) E { s with heap := h, toks := tk })
    (done : ∀ m₁ h tk, J n m₁ → Fr h₀ env.locals h m₁ → News h₀ env.locals h news → Q .next { s with heap := h, toks := tk }) :
    LoopAtV prog w A h₀ env x body Q E (.ref I) s := by
  let J' : Nat → (Str → Option Value) → List (Addr × Obj) → Prop := fun i m₁ n₁ => n₁ = news ∧ J i m₁
  refine ⟨I, fp, [I], n, P, St, m₀, news, J', rfl, W, ?_, ?_, ?_, hst, F, N, ⟨rfl, hj⟩, ?_, ?_⟩
  · intro hm
    rcases hfp _ hm with e | ⟨o, ho⟩
    · exact hIL e
    · exact (N _ ho).2.1 rfl
  · intro b hb
    rw [List.mem_singleton.mp hb]; exact hI0
  · intro p hp hq
    exact hIn p hp (List.mem_singleton.mp hq)
  · rintro i v m₁ news₁ s₁ own ⟨hh', tk', rfl⟩ hin hP ⟨rfl, hJ⟩ hoff hsub hget hall hst' F₁ N₁
    obtain ⟨oI, hoI⟩ := hIo _ _ hst'
    have hio : (I, oI) ∈ own := hall _ hI hI0 oI hoI
    have N₂ : News h₀ env.locals hh' ((I, oI) :: news₁) := fun p hp => by
      rcases List.mem_cons.mp hp with rfl | hp
      · exact N₁ _ (List.mem_append_left _ hio)
      · exact N₁ p (List.mem_append_right _ hp)
    refine wpAny_mono (turn i v m₁ hh' tk' oI hin hP hJ F₁ N₂) (fun f s₂ p => ?_) fun _ _ e => e
    have fin : KeepNext h₀ env.locals (J (i + 1)) ((I, oI) :: news₁) { s with heap := hh', toks := tk' } s₂ → LoopStepU h₀ env.locals [I] own (J' (i + 1)) { s with heap := hh', toks := tk' } .next s₂ := by
      rintro ⟨h', tk, m', e, F', N', hjn⟩
      refine ⟨rfl, h', tk, m', news₁, e, F', fun q hq => ?_, fun q hq hq1 => hIn q hq (List.mem_singleton.mp hq1), rfl, hjn⟩
      rcases List.mem_append.mp hq with hq | hq
      · rcases hfp _ (hsub q hq) with e1 | ⟨o, ho⟩
        · have : q = (I, oI) := Prod.ext e1 (by have := hget q hq; rw [e1, hoI] at this; exact (Option.some.inj this).symm)
          rw [this]
          exact N' _ (.head _)
        · have hl1 := (N₁ _ (List.mem_append_right own ho)).1
          have : q = (q.1, o) := Prod.ext rfl (by have := hget q hq; rw [hl1] at this; exact (Option.some.inj this).symm)
          rw [this]
          exact N' _ (.tail _ ho)
      · exact N' _ (.tail _ hq)
    cases f with
    | ret v => exact .ret p
    | brk => exact .brk p
    | next => exact .next (fin p)
    | cont => exact .cont (fin p)
  · rintro h' tk m' news' F' N' _ ⟨rfl, hJ⟩
    exact done m' h' tk hJ F' N'

theorem iterK_list {l : Addr} {vs : List Value} {c : Nat} {m₀ : Str → Option Value} {news : List (Addr × Obj)} (J : Nat → (Str → Option Value) → Prop)
    (hh : A.handled = none) (hl : (l, listOf vs.toArray c) ∈ news) (F : Fr h₀ env.locals s.heap m₀) (N : News h₀ env.locals s.heap news) (hj : J 0 m₀)
    (turn : ∀ i v m₁ h tk I oI, i < vs.length → vs[i]? = some v → J i m₁ → Fr h₀ env.locals h (fun y => if y = x then some v else m₁ y) → News h₀ env.locals h ((I, oI) :: news) →
      wpAny (model prog w) A (execs body env) (KeepPost h₀ env.locals (J (i + 1)) ((I, oI) :: news) { s with heap := h, toks := tk } Q) E { s with heap := h, toks := tk })
    (done : ∀ m₁ h tk, J vs.length m₁ → Fr h₀ env.locals h m₁ → News h₀ env.locals h news → Q .next { s with heap := h, toks := tk }) :
    wpAny (model prog w) A (pyIter (.ref l)) (fun it s₂ => LoopAtV prog w A h₀ env x body Q E it s₂) E s := by
  have hls := News.isList N hl
  have hne : l ≠ s.heap.objs.size := Nat.ne_of_lt (Heap.lt_size (N _ hl).1)
  refine wpAny_pyIter_list hls ?_
  have W := Walks.list (prog := prog) (w := w) hh s.heap.objs.size l hne vs.toArray
  have hlen : vs.toArray.size = vs.length := by simp
  rw [hlen] at W
  refine iterK (s := { s with heap := s.heap.push { cls := .type "list_iterator", data := .fields #[.ref l, .int 0 0] } }) (news := news) J W (fun b hb => ?_) (.head _) ⟨⟨_, Heap.get?_push_size _ rfl, rfl, rfl⟩, hls.at fun o e => Heap.get?_push_of_some _ e⟩ (F.push _) (N.grown fun _ _ e => Heap.get?_push_of_some _ e) (fun p hp => Nat.ne_of_lt (Heap.lt_size (N p hp).1)) (next_is_new F) (Nat.ne_of_lt F.ns.lt) (fun i h st => by obtain ⟨o, e, _⟩ := st.1; exact ⟨o, e⟩) hj (fun i v m₁ h tk oI hi hP => turn i v m₁ h tk _ oI hi (by simpa using hP)) done
  rcases List.mem_cons.mp hb with e | hb
  · exact .inl e
  · exact .inr ⟨_, by rw [List.mem_singleton.mp hb]; exact hl⟩

theorem iterK_tuple {l : Addr} {vs : List Value} {m₀ : Str → Option Value} {news : List (Addr × Obj)} (J : Nat → (Str → Option Value) → Prop)
    (hh : A.handled = none) (hl : (l, tupO vs) ∈ news) (F : Fr h₀ env.locals s.heap m₀) (N : News h₀ env.locals s.heap news) (hj : J 0 m₀)
    (turn : ∀ i v m₁ h tk I oI, i < vs.length → vs[i]? = some v → J i m₁ → Fr h₀ env.locals h (fun y => if y = x then some v else m₁ y) → News h₀ env.locals h ((I, oI) :: news) →
      wpAny (model prog w) A (execs body env) (KeepPost h₀ env.locals (J (i + 1)) ((I, oI) :: news) { s with heap := h, toks := tk } Q) E { s with heap := h, toks := tk })
    (done : ∀ m₁ h tk, J vs.length m₁ → Fr h₀ env.locals h m₁ → News h₀ env.locals h news → Q .next { s with heap := h, toks := tk }) :
    wpAny (model prog w) A (pyIter (.ref l)) (fun it s₂ => LoopAtV prog w A h₀ env x body Q E it s₂) E s := by
  have hls : s.heap.IsTuple l vs.toArray := ⟨_, (N _ hl).1, rfl, _, rfl⟩
  have hne : l ≠ s.heap.objs.size := Nat.ne_of_lt (Heap.lt_size (N _ hl).1)
  refine wpAny_pyIter_tuple hls ?_
  have W := Walks.tuple (prog := prog) (w := w) hh s.heap.objs.size l hne vs.toArray
  have hlen : vs.toArray.size = vs.length := by simp
  rw [hlen] at W
  refine iterK (s := { s with heap := s.heap.push { cls := .type "tuple_iterator", data := .fields #[.ref l, .int 0 0] } }) (news := news) J W (fun b hb => ?_) (.head _) ⟨⟨_, Heap.get?_push_size _ rfl, rfl, rfl⟩, ⟨_, Heap.get?_push_of_some _ (N _ hl).1, rfl, _, rfl⟩⟩ (F.push _) (N.grown fun _ _ e => Heap.get?_push_of_some _ e) (fun p hp => Nat.ne_of_lt (Heap.lt_size (N p hp).1)) (next_is_new F) (Nat.ne_of_lt F.ns.lt) (fun i h st => by obtain ⟨o, e, _⟩ := st.1; exact ⟨o, e⟩) hj (fun i v m₁ h tk oI hi hP => turn i v m₁ h tk _ oI hi (by simpa using hP)) done
  rcases List.mem_cons.mp hb with e | hb
  · exact .inl e
  · exact .inr ⟨_, by rw [List.mem_singleton.mp hb]; exact hl⟩

theorem iterK_range {r : Addr} {a b : Int} {t u v : Tok} {n : Nat} {m₀ : Str → Option Value} {news : List (Addr × Obj)} (J : Nat → (Str → Option Value) → Prop)
    (hh : A.handled = none) (hr : IsRange s.heap r a b 1 t u v) (hsm : Builtin.Range.small a b 1 = true) (hn : Builtin.Range.rangeSize a b 1 = ((n : Nat) : Int)) (F : Fr h₀ env.locals s.heap m₀) (N : News h₀ env.locals s.heap news) (hj : J 0 m₀)
    (turn : ∀ i t m₁ h tk I oI, i < n → J i m₁ → Fr h₀ env.locals h (fun y => if y = x then some (.int (a + (i : Int)) t) else m₁ y) → News h₀ env.locals h ((I, oI) :: news) →
      wpAny (model prog w) A (execs body env) (KeepPost h₀ env.locals (J (i + 1)) ((I, oI) :: news) { s with heap := h, toks := tk } Q) E { s with heap := h, toks := tk })
    (done : ∀ m₁ h tk, J n m₁ → Fr h₀ env.locals h m₁ → News h₀ env.locals h news → Q .next { s with heap := h, toks := tk }) :
    wpAny (model prog w) A (pyIter (.ref r)) (fun it s₂ => LoopAtV prog w A h₀ env x body Q E it s₂) E s := by
  refine wpAny_pyIter_range hr hsm ?_
  refine iterK (s := { s with heap := s.heap.push { cls := .type "range_iterator", data := .fields #[rawInt a, rawInt (Builtin.Range.rangeSize a b 1), rawInt 1] } }) (news := news) J (LCg.range_walks hh a n) (fun b hb => .inl (List.mem_singleton.mp hb)) (.head _) (by show IsRangeIter _ _ _ _ _; rw [hn]; simpa using Heap.get?_push_size _ rfl) (F.push _) (N.grown fun _ _ e => Heap.get?_push_of_some _ e) (fun p hp => Nat.ne_of_lt (Heap.lt_size (N p hp).1)) (next_is_new F) (Nat.ne_of_lt F.ns.lt) (fun i h st => ⟨_, st⟩) hj ?_ done
  rintro i v m₁ h tk oI hi ⟨t, rfl⟩ hJ F₁ N₁
  exact turn i t m₁ h tk _ oI hi hJ F₁ N₁
end
end Mine

namespace Mine
open PySem.Spec
theorem eqvAll_ints : ∀ ns ms : List Int, PyData.eqvAll (ns.map PyData.int) (ms.map PyData.int) = decide (ns = ms)
  | [], [] => by simp [PyData.eqvAll]
  | [], _ :: _ => by simp [PyData.eqvAll]
  | _ :: _, [] => by simp [PyData.eqvAll]
  | a :: r, b :: t => by
    simp only [List.map_cons, PyData.eqvAll, PyData.eqv, eqvAll_ints r t]
    by_cases h : a = b <;> by_cases h' : r = t <;> simp [h, h']
theorem shaped_tup (ns : List Int) : SeqAt.shaped (.tuple (ns.map PyData.int)) = true := by
  simp [SeqAt.shaped, PyData.canLay0, PyData.depth, ke_canLayAll0, ke_depthAll]
theorem readsAll_ints {h : Heap} : ∀ {vs : List Value} {ns : List Int}, IntsAre vs ns → ∃ as, ReadsAll h vs (ns.map PyData.int) as
  | _, _, .nil => ⟨_, .nil⟩
  | _, _, .cons i t r => let ⟨_, k⟩ := readsAll_ints r; ⟨_, .cons (Reads.int i t) k⟩
section
variable {prog : Program} {w : World} {A : Around} {E : Value → Shared → Prop} {s : Shared} {h₀ : Heap} {L a b : Addr} {news : List (Addr × Obj)} {xs ys : List Value} {ns ms : List Int} {Q : Value → Shared → Prop}
theorem ne_tups (N : News h₀ L s.heap news) (ha : (a, tupO xs) ∈ news) (hb : (b, tupO ys) ∈ news) (hi : IntsAre xs ns) (hj : IntsAre ys ms) (hu : A.units + 64 < cLine) (h : Q (.bool (!decide (ns = ms))) s) :
    wpAny (model prog w) A (compareOp .NotEq (.ref a) (.ref b)) Q E s := by
  obtain ⟨as, ra⟩ := readsAll_ints (h := s.heap) hi
  obtain ⟨bs, rb⟩ := readsAll_ints (h := s.heap) hj
  refine ne_dataH (reads_tuple_at (N _ ha).1 rfl rfl ra) (reads_tuple_at (N _ hb).1 rfl rfl rb) (shaped_tup _) (shaped_tup _) hu ?_
  show Q (.bool (!PyData.eqv (.tuple _) (.tuple _))) s
  rw [show PyData.eqv (.tuple (ns.map PyData.int)) (.tuple (ms.map PyData.int)) = decide (ns = ms) by simp only [PyData.eqv]; exact eqvAll_ints ns ms]
  exact h
end
end Mine

namespace Mine
theorem pin3 {m : Str → Option Value} {a b c : Str} {va vb vc : Value} (ha : m a = some va) (hb : m b = some vb) (hc : m c = some vc) : m = fun y => if y = a then some va else if y = b then some vb else if y = c then some vc else m y := by
  funext y
  by_cases h1 : y = a
  · subst h1; simp [ha]
  · by_cases h2 : y = b
    · subst h2; simp [hb, h1]
    · by_cases h3 : y = c
      · subst h3; simp [hc, h1, h2]
      · simp [h1, h2, h3]
local macro_rules | `(tactic| k_mem) => `(tactic| assumption)
local macro_rules | `(tactic| k_get) => `(tactic| assumption)
local macro_rules | `(tactic| walk_at "call builtin:len") => `(tactic| (k_here; (with_reducible show wpAny _ _ (call (Value.builtin "len") [Value.ref _]) _ _ _); (refine' len_list (News.isList ?N ?m) ?f ?_); (case N => k_asm); (case m => first | k_mem | exact .tail _ (by assumption)); (case f => (rw [List.size_toArray]; omega)); k_whole; (try simp only [List.size_toArray])))
local macro_rules | `(tactic| walk_at "subscriptTail") => `(tactic| (k_here; (with_reducible show wpAny _ _ (subscriptTail _ _ (Value.ref _) (Value.int (-1) _)) _ _ _); (refine' item_list_ints_neg (News.isList ?N ?m) ?i (by decide) ?b (by decide) ?_ ?d ?e; (case N => k_asm); (case m => first | assumption | exact .tail _ (by assumption) | exact .tail _ (.tail _ (by assumption)) | exact .tail _ (.tail _ (.tail _ (by assumption)))); (case i => assumption); (case b => assumption); (case d => with_unfolding_all rfl); (case e => (intro _; with_unfolding_all rfl))); intro tS))
local macro_rules | `(tactic| walk_at "subscriptTail") => `(tactic| (k_here; (with_reducible show wpAny _ _ (subscriptTail _ _ (Value.ref _) (Value.int 0 _)) _ _ _); (refine' PySem.W.ksa_sub ?N ?m ?i (by decide) ?b (by decide) ?_ ?d; (case N => k_asm); (case m => first | assumption | exact .tail _ (by assumption) | exact .tail _ (.tail _ (by assumption)) | exact .tail _ (.tail _ (.tail _ (by assumption)))); (case i => assumption); (case b => assumption); (case d => with_unfolding_all rfl)); intro tS))

def forBody : List Stmt → List Stmt
  | .For _ _ b _ _ :: _ => b
  | _ => []
noncomputable def inner1 : List Stmt := forBody (forBody (lawStmts 5))

def DueIs (base : List (Addr × Obj)) (v : Value) : Option (List Int) → Prop
  | none => v = .none
  | some ds => TupI base v ds
theorem pin6 {m : Str → Option Value} {a b c d e f : Str} {va vb vc vd ve vf : Value} (ha : m a = some va) (hb : m b = some vb) (hc : m c = some vc) (hd : m d = some vd) (he : m e = some ve) (hf : m f = some vf) :
    m = fun y => if y = a then some va else if y = b then some vb else if y = c then some vc else if y = d then some vd else if y = e then some ve else if y = f then some vf else m y := by
  funext y
  by_cases h1 : y = a
  · subst h1; simp [ha]
  · rw [if_neg h1]
    exact congrFun (pin5 hb hc hd he hf) y

set_option maxHeartbeats 8000000 in
theorem loop1_test {w : World} {h₀ : Heap} {L fa wc : Addr} {m mg mb : Str → Option Value} {mean : ExcName → Option Value} {base : List (Addr × Obj)} {s : Shared} {P : Flow → Shared → Prop}
  (K0 : Below callerA h₀ [] h₀) (KX : (hd.heap_39 w.params).In h₀) (TT : Top hd.view_39 LO mean mg mb h₀)
  {xS dS aC aW aB : Addr} {es : List DictEntry} {full code : Int} {ct : Tok} {wv bv : List Value} {cw : Nat} {wss : List (List Int)} {bs : List Int} {dv : Value}
  (N : News h₀ L s.heap base) (SZ : SizesAt base xS dS es 7 full) (mW : (aW, listOf wv.toArray cw) ∈ base) (hW : WordsAre base wv wss) (hwl : wss.length ≤ 6)
  (mB : (aB, tupO bv) ∈ base) (iB : IntsAre bv bs) (hbl : bs.length ≤ 2) (hc0 : 0 ≤ code) (hc1 : code < 100)
  (n1 : m (Str.ofString "codes") = some (.ref aC)) (n2 : m (Str.ofString "sizes") = some (.ref xS)) (n3 : m (Str.ofString "words") = some (.ref aW)) (n4 : m (Str.ofString "before") = some (.ref aB))
  (n5 : m (Str.ofString "code") = some (.int code ct)) (n6 : m (Str.ofString "due") = some dv)
  (hdue : code ≠ 4 → code ≠ 5 → DueIs base dv (wordOf full wss code bs))
  (F : Fr h₀ L s.heap m)
  (hk : ∀ m' h' tk, Fr h₀ L h' m' → News h₀ L h' base → m' (Str.ofString "codes") = some (.ref aC) → m' (Str.ofString "sizes") = some (.ref xS) → m' (Str.ofString "words") = some (.ref aW) → m' (Str.ofString "before") = some (.ref aB) → P .next { s with heap := h', toks := tk }) :
  wpAny (model PySem.Challenge.rw_og0129_01.row.prog w) (callerA.deeper (lawEnv L fa (.ref wc))) (execs (inner1.drop 2) (lawEnv L fa (.ref wc))) P (fun _ _ => False) s := by
  obtain ⟨s1, s2, ⟨t1, s3⟩, ⟨t2, s4⟩, ⟨t3, s5⟩, ⟨t4, s6⟩⟩ := id SZ
  have hwv := hW.1
  rw [pin6 n1 n2 n3 n4 n5 n6] at F
  unfold lawEnv
  conv in (inner1.drop 2) => whnf
  conv in (occs := *) lawScope => all_goals whnf
  revert KX
  w_top off
  k_fill
  intro KX
  repeat' (first | (k_unfold; (try dsimp only)) | ((fail_if_success (with_reducible show wpAny _ _ (call (Value.ref 125) _) _ _ _)); walk1; (try dsimp only)) | fail "no step")
  · (with_reducible rename Fr h₀ L _ _ => FF)
    (with_reducible rename News h₀ L _ _ => NN)
    exact hk _ _ _ FF (News.sub' NN (fun p hp => .tail _ hp)) rfl rfl rfl rfl
  · have hany : ([4, 5].any fun x => x == code) = false := by assumption
    have h45 : code ≠ 4 ∧ code ≠ 5 := by
      simp only [List.any_cons, List.any_nil, Bool.or_false, Bool.or_eq_false_iff, beq_eq_false_iff_ne, ne_eq] at hany
      exact ⟨fun e => hany.1 e.symm, fun e => hany.2 e.symm⟩
    have hd1 := hdue h45.1 h45.2
    (with_reducible rename Fr h₀ L _ _ => FF)
    (with_reducible rename News h₀ L _ _ => NN)
    have NB : News h₀ L _ base := News.sub' NN (fun p hp => .tail _ hp)
    clear NN
    refine heard_call K0 FF KX NB TT (Around.frames_deeper K0.stack) rfl rfl (by rw [depth_deeper]; decide) rfl SZ mW hW (by omega) mB iB (by omega) (by omega) (by omega) ?a ?b
    case a =>
      intro v ws h7 tk7 made hwo F7 N7 hv
      obtain ⟨aV, vv, rfl, hvm, hvi⟩ := hv
      rw [hwo] at hd1
      obtain ⟨aD, dvs, rfl, hdm, hdi⟩ := hd1
      clear FF NB
      repeat' (first | (k_unfold; (try dsimp only)) | ((fail_if_success (with_reducible show wpAny _ _ (compareOp CmpOp.NotEq _ _) _ _ _)); walk1; (try dsimp only)) | fail "no step")
      refine ne_tups N7 hvm (List.mem_append_right _ hdm) hvi hdi (by simp only [units_in1, units_deeper]; decide) ?_
      rw [decide_eq_true rfl]
      repeat' (first | (k_unfold; (try dsimp only)) | (walk1; (try dsimp only)) | fail "no step")
      (with_reducible rename Fr h₀ L _ _ => FF)
      (with_reducible rename News h₀ L _ _ => NN)
      exact hk _ _ _ FF (News.sub' NN (fun p hp => List.mem_append_right _ hp)) rfl rfl rfl rfl
    case b =>
      intro h7 tk7 hwo F7 N7
      rw [hwo] at hd1
      cases hd1
      clear FF NB
      repeat' (first | (k_unfold; (try dsimp only)) | (walk1; (try dsimp only)) | fail "no step")
      (with_reducible rename Fr h₀ L _ _ => FF)
      (with_reducible rename News h₀ L _ _ => NN)
      exact hk _ _ _ FF NN rfl rfl rfl rfl
end Mine

namespace Mine
local macro_rules | `(tactic| k_mem) => `(tactic| assumption)
local macro_rules | `(tactic| k_get) => `(tactic| assumption)
local macro_rules | `(tactic| walk_at "call builtin:len") => `(tactic| (k_here; (with_reducible show wpAny _ _ (call (Value.builtin "len") [Value.ref _]) _ _ _); (refine' len_list (News.isList ?N ?m) ?f ?_); (case N => k_asm); (case m => first | k_mem | exact .tail _ (by assumption)); (case f => (rw [List.size_toArray]; omega)); k_whole; (try simp only [List.size_toArray])))
local macro_rules | `(tactic| walk_at "subscriptTail") => `(tactic| (k_here; (with_reducible show wpAny _ _ (subscriptTail _ _ (Value.ref _) (Value.int (-1) _)) _ _ _); (refine' item_list_ints_neg (News.isList ?N ?m) ?i (by decide) ?b (by decide) ?_ ?d ?e; (case N => k_asm); (case m => first | assumption | exact .tail _ (by assumption) | exact .tail _ (.tail _ (by assumption)) | exact .tail _ (.tail _ (.tail _ (by assumption)))); (case i => assumption); (case b => assumption); (case d => with_unfolding_all rfl); (case e => (intro _; with_unfolding_all rfl))); intro tS))
local macro_rules | `(tactic| walk_at "subscriptTail") => `(tactic| (k_here; (with_reducible show wpAny _ _ (subscriptTail _ _ (Value.ref _) (Value.int 0 _)) _ _ _); (refine' PySem.W.ksa_sub ?N ?m ?i (by decide) ?b (by decide) ?_ ?d; (case N => k_asm); (case m => first | assumption | exact .tail _ (by assumption) | exact .tail _ (.tail _ (by assumption)) | exact .tail _ (.tail _ (.tail _ (by assumption)))); (case i => assumption); (case b => assumption); (case d => with_unfolding_all rfl)); intro tS))

set_option maxHeartbeats 8000000 in
theorem loop1_turn {w : World} {h₀ : Heap} {L fa wc : Addr} {m mg mb : Str → Option Value} {mean : ExcName → Option Value} {base : List (Addr × Obj)} {s : Shared} {P : Flow → Shared → Prop}
  (K0 : Below callerA h₀ [] h₀) (KX : (hd.heap_39 w.params).In h₀) (TT : Top hd.view_39 LO mean mg mb h₀)
  {xS dS aC aW aB : Addr} {es : List DictEntry} {full code : Int} {ct : Tok} {wv bv : List Value} {cw : Nat} {wss : List (List Int)} {bs : List Int}
  (N : News h₀ L s.heap base) (SZ : SizesAt base xS dS es 7 full) (mW : (aW, listOf wv.toArray cw) ∈ base) (hW : WordsAre base wv wss) (hwl : wss.length ≤ 6)
  (mB : (aB, tupO bv) ∈ base) (iB : IntsAre bv bs) (hbl : bs.length ≤ 2) (hc0 : 0 ≤ code) (hc1 : code < 100)
  (n1 : m (Str.ofString "codes") = some (.ref aC)) (n2 : m (Str.ofString "sizes") = some (.ref xS)) (n3 : m (Str.ofString "words") = some (.ref aW)) (n4 : m (Str.ofString "before") = some (.ref aB))
  (F : Fr h₀ L s.heap (fun y => if y = Str.ofString "code" then some (.int code ct) else m y))
  (hk : ∀ m' h' tk, Fr h₀ L h' m' → News h₀ L h' base → m' (Str.ofString "codes") = some (.ref aC) → m' (Str.ofString "sizes") = some (.ref xS) → m' (Str.ofString "words") = some (.ref aW) → m' (Str.ofString "before") = some (.ref aB) → P .next { s with heap := h', toks := tk }) :
  wpAny (model PySem.Challenge.rw_og0129_01.row.prog w) (callerA.deeper (lawEnv L fa (.ref wc))) (execs inner1 (lawEnv L fa (.ref wc))) P (fun _ _ => False) s := by
  obtain ⟨s1, s2, ⟨t1, s3⟩, ⟨t2, s4⟩, ⟨t3, s5⟩, ⟨t4, s6⟩⟩ := id SZ
  have hwv := hW.1
  rw [pin4 n1 n2 n3 n4] at F
  unfold lawEnv
  conv in inner1 => whnf
  conv in (occs := *) lawScope => all_goals whnf
  revert KX
  w_top off
  k_fill
  intro KX
  have upT : ∀ (x : Addr × Obj), ∀ p ∈ base, p ∈ x :: base := fun _ p hp => .tail _ hp
  by_cases hA : code < 4
  · repeat' (first | (k_unfold; (try dsimp only)) | ((fail_if_success (with_reducible show wpAny _ _ (execs [PySem.Stmt.If (PySem.Expr.BoolOp _ [_, _] _) _ _ _] _) _ _ _)); (fail_if_success (with_reducible show wpAny _ _ (compareOp CmpOp.NotEq _ _) _ _ _)); (fail_if_success (with_reducible show wpAny _ _ (subscriptTail _ _ _ _) _ _ _)); walk1; (try dsimp only)) | fail "no step")
    (with_reducible rename Fr h₀ L _ _ => FF)
    (with_reducible rename News h₀ L _ _ => NN)
    refine loop1_test K0 KX TT NN (SZ.mono (upT _)) (upT _ _ mW) (hW.mono (upT _)) hwl (upT _ _ mB) iB hbl hc0 hc1 rfl rfl rfl rfl rfl rfl (fun _ _ => ?_) FF (fun m' h' tk F' N' e1 e2 e3 e4 => hk _ _ _ F' (News.sub' N' (upT _)) e1 e2 e3 e4)
    unfold wordOf
    rw [if_pos hA]
    exact ⟨_, _, rfl, .head _, .cons _ _ .nil⟩
  have none_ : ∀ (m2 : Str → Option Value) (h2 : Heap) (tk2 : Nat), Fr h₀ L h2 m2 → News h₀ L h2 base → wordOf full wss code bs = none → m2 (Str.ofString "codes") = some (.ref aC) → m2 (Str.ofString "sizes") = some (.ref xS) → m2 (Str.ofString "words") = some (.ref aW) → m2 (Str.ofString "before") = some (.ref aB) → m2 (Str.ofString "code") = some (.int code ct) → m2 (Str.ofString "due") = some .none →
      wpAny (model PySem.Challenge.rw_og0129_01.row.prog w) (callerA.deeper (lawEnv L fa (.ref wc))) (execs (inner1.drop 2) (lawEnv L fa (.ref wc))) P (fun _ _ => False) { s with heap := h2, toks := tk2 } := fun m2 h2 tk2 F2 N2 hno e1 e2 e3 e4 e5 e6 =>
    loop1_test K0 KX TT N2 SZ mW hW hwl mB iB hbl hc0 hc1 e1 e2 e3 e4 e5 e6 (fun _ _ => by rw [hno]; rfl) F2 hk
  repeat' (first | (k_unfold; (try dsimp only)) | ((fail_if_success (with_reducible show wpAny _ _ (execs [PySem.Stmt.If (PySem.Expr.BoolOp _ [_, _] _) _ _ _] _) _ _ _)); (fail_if_success (with_reducible show wpAny _ _ (compareOp CmpOp.NotEq _ _) _ _ _)); (fail_if_success (with_reducible show wpAny _ _ (subscriptTail _ _ _ _) _ _ _)); walk1; (try dsimp only)) | fail "no step")
  · (with_reducible rename News h₀ L _ _ => NN)
    have hk1 : (code - 6).toNat < wv.length := by omega
    obtain ⟨ws, hws1, hws2⟩ := hW.2 (code - 6).toNat wv[(code - 6).toNat] (by simp [hk1])
    refine item_listL (News.isList NN mW) (by omega) (by omega) (x := wv[(code - 6).toNat]) (by simp [hk1]) ?_
    repeat' (first | (k_unfold; (try dsimp only)) | ((fail_if_success (with_reducible show wpAny _ _ (execs [PySem.Stmt.If (PySem.Expr.BoolOp _ [_, _] _) _ _ _] _) _ _ _)); (fail_if_success (with_reducible show wpAny _ _ (compareOp CmpOp.NotEq _ _) _ _ _)); (fail_if_success (with_reducible show wpAny _ _ (subscriptTail _ _ _ _) _ _ _)); walk1; (try dsimp only)) | fail "no step")
    (with_reducible rename Fr h₀ L _ _ => FF)
    (with_reducible rename News h₀ L _ _ => NN)
    refine loop1_test K0 KX TT NN SZ mW hW hwl mB iB hbl hc0 hc1 rfl rfl rfl rfl rfl rfl (fun _ _ => ?_) FF hk
    unfold wordOf
    rw [if_neg hA, if_pos (by omega), hws1]
    exact hws2
  · (with_reducible rename Fr h₀ L _ _ => FF)
    (with_reducible rename News h₀ L _ _ => NN)
    refine ne_tups NN (.tail _ mB) (.head _) iB (ms := []) .nil (by simp only [units_in1, units_deeper]; decide) ?_
    have NB : News h₀ L _ base := News.sub' NN (fun p hp => .tail _ hp)
    clear NN
    by_cases hbe : bv = []
    · subst hbe
      have hbe' : bs = [] := by cases iB; rfl
      subst hbe'
      repeat' (first | (k_unfold; (try dsimp only)) | ((fail_if_success (with_reducible show wpAny _ _ (execs [PySem.Stmt.If (PySem.Expr.BoolOp _ [_, _] _) _ _ _] _) _ _ _)); (fail_if_success (with_reducible show wpAny _ _ (compareOp CmpOp.NotEq _ _) _ _ _)); (fail_if_success (with_reducible show wpAny _ _ (subscriptTail _ _ _ _) _ _ _)); walk1; (try dsimp only)) | fail "no step")
      (with_reducible rename Fr h₀ L _ _ => FF)
      (with_reducible rename News h₀ L _ _ => NN)
      exact none_ _ _ _ FF NN (by unfold wordOf; rw [if_neg hA, if_neg (by omega), if_neg (by simp)]) rfl rfl rfl rfl rfl rfl
    · obtain ⟨b0, br, rfl⟩ := List.exists_cons_of_ne_nil hbe
      cases iB with
      | cons b0i b0t hbr =>
      rename_i bri
      rw [decide_eq_false (List.cons_ne_nil _ _)]
      repeat' (first | (k_unfold; (try dsimp only)) | ((fail_if_success (with_reducible show wpAny _ _ (execs [PySem.Stmt.If (PySem.Expr.BoolOp _ [_, _] _) _ _ _] _) _ _ _)); (fail_if_success (with_reducible show wpAny _ _ (compareOp CmpOp.NotEq _ _) _ _ _)); (fail_if_success (with_reducible show wpAny _ _ (subscriptTail _ _ _ _) _ _ _)); walk1; (try dsimp only)) | fail "no step")
      · have hlf : code < full := by assumption
        (with_reducible rename Fr h₀ L _ _ => FF)
        (with_reducible rename News h₀ L _ _ => NN)
        refine slice_one (s := ⟨_, _, _, _, _⟩) FF NN mB (fun D hp made F1 N1 hD hlt1 => ?_) (by with_unfolding_all rfl) (by intro _; with_unfolding_all rfl)
        refine add_tuples F1 N1 (vs := Value.int b0i b0t :: br) (ws := [Value.int b0i b0t]) ⟨_, (N1 _ (List.mem_append_right _ mB)).1, rfl, _, rfl⟩ ⟨_, (N1 _ hD).1, rfl, _, rfl⟩ (fun q => absurd q (List.cons_ne_nil _ _)) (fun _ q => absurd q (List.cons_ne_nil _ _)) ?hmain ?hz
        case hz => (have := hbr.length; rw [sizeLine_eq]; simp only [List.length_cons, List.length_nil] at *; omega)
        intro _ _ h' F2 N2
        clear FF NN F1 N1
        have mW2 : (aW, listOf wv.toArray cw) ∈ made ++ base := List.mem_append_right _ mW
        repeat' (first | (k_unfold; (try dsimp only)) | ((fail_if_success (with_reducible show wpAny _ _ (execs [PySem.Stmt.If (PySem.Expr.BoolOp _ [_, _] _) _ _ _] _) _ _ _)); (fail_if_success (with_reducible show wpAny _ _ (compareOp CmpOp.NotEq _ _) _ _ _)); (fail_if_success (with_reducible show wpAny _ _ (subscriptTail _ _ _ _) _ _ _)); walk1; (try dsimp only)) | fail "no step")
        (with_reducible rename Fr h₀ L _ _ => FF)
        (with_reducible rename News h₀ L _ _ => NN)
        have up2 : ∀ (x : Addr × Obj), ∀ p ∈ base, p ∈ x :: (made ++ base) := fun _ p hp => .tail _ (List.mem_append_right _ hp)
        refine loop1_test K0 KX TT NN (SZ.mono (up2 _)) (up2 _ _ mW) (hW.mono (up2 _)) hwl (up2 _ _ mB) (.cons _ _ hbr) hbl hc0 hc1 rfl rfl rfl rfl rfl rfl (fun _ _ => ?_) FF (fun m' h' tk F' N' e1 e2 e3 e4 => hk _ _ _ F' (News.sub' N' (up2 _)) e1 e2 e3 e4)
        unfold wordOf
        rw [if_neg hA, if_neg (by omega), if_pos ⟨by omega, by simp, hlf⟩]
        exact ⟨_, _, rfl, .head _, IntsAre.append (.cons _ _ hbr) (.cons _ _ .nil)⟩
      · have hlf : ¬ code < full := by assumption
        (with_reducible rename Fr h₀ L _ _ => FF)
        (with_reducible rename News h₀ L _ _ => NN)
        exact none_ _ _ _ FF NN (by unfold wordOf; rw [if_neg hA, if_neg (by omega), if_neg (by intro q; exact hlf q.2.2)]) rfl rfl rfl rfl rfl rfl
  · have hne : code ≠ 6 + (wv.length : Int) := by assumption
    (with_reducible rename Fr h₀ L _ _ => FF)
    (with_reducible rename News h₀ L _ _ => NN)
    exact none_ _ _ _ FF NN (by unfold wordOf; rw [if_neg hA, if_neg (by omega), if_neg (by omega)]) rfl rfl rfl rfl rfl rfl
  · exfalso; omega
  · have hlt6 : ¬ 6 ≤ code := by assumption
    (with_reducible rename Fr h₀ L _ _ => FF)
    (with_reducible rename News h₀ L _ _ => NN)
    refine loop1_test K0 KX TT NN SZ mW hW hwl mB iB hbl hc0 hc1 rfl rfl rfl rfl rfl rfl (fun h4 h5 => ?_) FF hk
    exfalso; omega
end Mine

namespace Mine
theorem newsGen {h₀ h : Heap} {L : Addr} {l : List (Addr × Obj)} {R : List (Addr × Obj) → Prop} (N : News h₀ L h l) (r : R l) : ∃ b, News h₀ L h b ∧ R b ∧ ∀ h', News h₀ L h' b → News h₀ L h' l := ⟨l, N, r, fun _ x => x⟩
local macro_rules | `(tactic| k_mem) => `(tactic| assumption)
local macro_rules | `(tactic| k_get) => `(tactic| assumption)
local macro_rules | `(tactic| walk_at "call builtin:len") => `(tactic| (k_here; (with_reducible show wpAny _ _ (call (Value.builtin "len") [Value.ref _]) _ _ _); (refine' len_list (News.isList ?N ?m) ?f ?_); (case N => k_asm); (case m => first | k_mem | exact .tail _ (by assumption)); (case f => (rw [List.size_toArray]; omega)); k_whole; (try simp only [List.size_toArray])))
local macro_rules | `(tactic| walk_at "subscriptTail") => `(tactic| (k_here; (with_reducible show wpAny _ _ (subscriptTail _ _ (Value.ref _) (Value.int (-1) _)) _ _ _); (refine' item_list_ints_neg (News.isList ?N ?m) ?i (by decide) ?b (by decide) ?_ ?d ?e; (case N => k_asm); (case m => first | assumption | exact .tail _ (by assumption) | exact .tail _ (.tail _ (by assumption)) | exact .tail _ (.tail _ (.tail _ (by assumption)))); (case i => assumption); (case b => assumption); (case d => with_unfolding_all rfl); (case e => (intro _; with_unfolding_all rfl))); intro tS))
local macro_rules | `(tactic| walk_at "subscriptTail") => `(tactic| (k_here; (with_reducible show wpAny _ _ (subscriptTail _ _ (Value.ref _) (Value.int 0 _)) _ _ _); (refine' PySem.W.ksa_sub ?N ?m ?i (by decide) ?b (by decide) ?_ ?d; (case N => k_asm); (case m => first | assumption | exact .tail _ (by assumption) | exact .tail _ (.tail _ (by assumption)) | exact .tail _ (.tail _ (.tail _ (by assumption)))); (case i => assumption); (case b => assumption); (case d => with_unfolding_all rfl)); intro tS))
set_option maxHeartbeats 8000000 in
theorem law_loop1 {w : World} {h₀ : Heap} {L fa wc : Addr} {m mg mb : Str → Option Value} {mean : ExcName → Option Value} {base : List (Addr × Obj)} {s : Shared} {Q : Flow → Shared → Prop}
  (K0 : Below callerA h₀ [] h₀) (KX : (hd.heap_39 w.params).In h₀) (TT : Top hd.view_39 LO mean mg mb h₀)
  {xS dS aG aC aW : Addr} {es : List DictEntry} {full : Int} {gv cv wv : List Value} {cg cc cw : Nat} {sg : List Int} {oc : Obj} {wss : List (List Int)}
  (S : LSt h₀ L s.heap m base xS dS es full aG gv cg sg aC cv cc oc)
  (mW : (aW, listOf wv.toArray cw) ∈ base) (hW : WordsAre base wv wss) (hwl : wss.length ≤ 6) (n3 : m (Str.ofString "words") = some (.ref aW))
  (next : ∀ m' h' tk, LSt h₀ L h' m' base xS dS es full aG gv cg sg aC cv cc oc → m' (Str.ofString "words") = some (.ref aW) →
    wpAny (model PySem.Challenge.rw_og0129_01.row.prog w) (callerA.deeper (lawEnv L fa (.ref wc))) (execs (lawStmts 6) (lawEnv L fa (.ref wc))) Q (fun _ _ => False) { s with heap := h', toks := tk }) :
  wpAny (model PySem.Challenge.rw_og0129_01.row.prog w) (callerA.deeper (lawEnv L fa (.ref wc))) (execs (lawStmts 5) (lawEnv L fa (.ref wc))) Q (fun _ _ => False) s := by
  obtain ⟨F, N, SZ, hfull, mG, iG, len1, len7, sgb, mC, iC, mCell, dCell, n1, n2⟩ := S
  have hgv := iG.length
  rw [pin3 n1 n2 n3] at F
  unfold lawEnv
  conv in (lawStmts 5) => whnf
  conv in (occs := *) lawScope => all_goals whnf
  revert KX
  w_top off
  k_fill
  intro KX
  repeat' (first | (k_unfold; (try dsimp only)) | ((fail_if_success (with_reducible show wpAny _ _ (exec (PySem.Stmt.For _ _ _ _ _) _) _ _ _)); walk1; (try dsimp only)) | fail "no step")
  refine For_invV h₀ rfl rfl ?_ (by intro _; with_unfolding_all rfl) (by passes_own)
  have hneg : -(sg.length : Int) ≤ -1 := by omega
  have hpos : (0 : Int) < sg.length := by omega
  repeat' (first | (k_unfold; (try dsimp only)) | ((fail_if_success (with_reducible show wpAny _ _ (pyIter _) _ _ _)); walk1; (try dsimp only)) | fail "no step")
  rename_i a0 _ _ _ a1 _ _ _ _ a2 _ _ aT _ nF nN _
  refine iterK_tuple (vs := [.ref a0, .ref a1, .ref a2]) (fun _ m => m (Str.ofString "codes") = some (.ref aC) ∧ m (Str.ofString "sizes") = some (.ref xS) ∧ m (Str.ofString "words") = some (.ref aW)) rfl (.head _) nF nN ⟨rfl, rfl, rfl⟩ ?turn ?done
  case done =>
    rintro m₁ h1 tk1 ⟨e1, e2, e3⟩ F1 N1
    dsimp only
    have NB : News h₀ L h1 base := News.sub' N1 (fun p hp => .tail _ (.tail _ (.tail _ (.tail _ hp))))
    exact next m₁ h1 tk1 ⟨F1, NB, SZ, hfull, mG, iG, len1, len7, sgb, mC, iC, mCell, dCell, e1, e2⟩ e3
  case turn =>
    rintro i v m₁ h1 tk1 I oI hi hv ⟨e1, e2, e3⟩ F1 N1
    obtain ⟨base2, N2, ⟨up2, aB, bv, bs, rfl, mB, iB, hbl⟩, back⟩ := newsGen (R := fun b => (∀ p ∈ base, p ∈ b) ∧ ∃ aB bv bs, v = .ref aB ∧ (aB, tupO bv) ∈ b ∧ IntsAre bv bs ∧ bs.length ≤ 2) N1 (by
      refine ⟨fun p hp => .tail _ (.tail _ (.tail _ (.tail _ (.tail _ hp)))), ?_⟩
      rcases (by simp only [List.length_cons, List.length_nil] at hi; omega : i = 0 ∨ i = 1 ∨ i = 2) with rfl | rfl | rfl
      · cases hv; exact ⟨_, _, _, rfl, .tail _ (.tail _ (.tail _ (.tail _ (.head _)))), .nil, by decide⟩
      · cases hv; exact ⟨_, _, _, rfl, .tail _ (.tail _ (.tail _ (.head _))), .cons _ _ .nil, by simp⟩
      · cases hv; exact ⟨_, _, _, rfl, .tail _ (.tail _ (.head _)), .cons _ _ (.cons _ _ .nil), by simp⟩)
    clear N1 nN nF
    rw [pin3 e1 e2 e3] at F1
    obtain ⟨s1, s2, ⟨t1, s3⟩, ⟨t2, s4⟩, ⟨t3, s5⟩, ⟨t4, s6⟩⟩ := SZ.mono up2
    repeat' (first | (k_unfold; (try dsimp only)) | ((fail_if_success (with_reducible show wpAny _ _ (exec (PySem.Stmt.For _ _ _ _ _) _) _ _ _)); walk1; (try dsimp only)) | fail "no step")
    refine For_invV h₀ rfl rfl ?_ (by intro _; with_unfolding_all rfl) (by passes_own)
    repeat' (first | (k_unfold; (try dsimp only)) | ((fail_if_success (with_reducible show wpAny _ _ (pyIter _) _ _ _)); walk1; (try dsimp only)) | fail "no step")
    (with_reducible rename IsRange _ _ _ _ _ _ _ _ => hR)
    rename_i FF NN _
    refine iterK_range (n := (full + 3).toNat) (fun _ m => m (Str.ofString "codes") = some (.ref aC) ∧ m (Str.ofString "sizes") = some (.ref xS) ∧ m (Str.ofString "words") = some (.ref aW) ∧ m (Str.ofString "before") = some (.ref aB)) rfl hR (by rcases hfull with rfl | rfl <;> decide) (by rcases hfull with rfl | rfl <;> decide) FF NN ⟨rfl, rfl, rfl, rfl⟩ ?turn2 ?done2
    case turn2 =>
      rintro i2 t5 m₂ h2 tk2 I2 oI2 hi2 ⟨f1, f2, f3, f4⟩ F3 N3
      have up3 : ∀ p ∈ base2, p ∈ (I2, oI2) :: base2 := fun p hp => .tail _ hp
      exact loop1_turn K0 KX TT (code := 0 + (i2 : Int)) N3 (SZ.mono fun p hp => up3 p (up2 p hp)) (up3 _ (up2 _ mW)) (hW.mono fun p hp => up3 p (up2 p hp)) hwl (up3 _ mB) iB hbl (by omega) (by rcases hfull with rfl | rfl <;> omega) f1 f2 f3 f4 F3
        (fun m' h' tk F' N' e1 e2 e3 e4 => ⟨h', tk, m', rfl, F', N', e1, e2, e3, e4⟩)
    case done2 =>
      rintro m₂ h2 tk2 ⟨f1, f2, f3, f4⟩ F3 N3
      dsimp only
      repeat' (first | (k_unfold; (try dsimp only)) | (walk1; (try dsimp only)) | fail "no step")
      exact ⟨h2, tk2, m₂, rfl, F3, back _ N3, f1, f2, f3⟩
end Mine

namespace Mine
noncomputable def inner2 : List Stmt := forBody (lawStmts 6)
def AnsIs (base : List (Addr × Obj)) (v : Value) : Option (List Int) → Prop
  | none => v = .none
  | some r => ∃ a vs c, v = .ref a ∧ (a, listOf vs.toArray c) ∈ base ∧ IntsAre vs r
local macro_rules | `(tactic| k_mem) => `(tactic| assumption)
local macro_rules | `(tactic| k_get) => `(tactic| assumption)
local macro_rules | `(tactic| walk_at "call builtin:len") => `(tactic| (k_here; (with_reducible show wpAny _ _ (call (Value.builtin "len") [Value.ref _]) _ _ _); (refine' len_list (News.isList ?N ?m) ?f ?_); (case N => k_asm); (case m => first | k_mem | exact .tail _ (by assumption)); (case f => (rw [List.size_toArray]; omega)); k_whole; (try simp only [List.size_toArray])))
local macro_rules | `(tactic| walk_at "subscriptTail") => `(tactic| (k_here; (with_reducible show wpAny _ _ (subscriptTail _ _ (Value.ref _) (Value.int (-1) _)) _ _ _); (refine' item_list_ints_neg (News.isList ?N ?m) ?i (by decide) ?b (by decide) ?_ ?d ?e; (case N => k_asm); (case m => first | assumption | exact .tail _ (by assumption) | exact .tail _ (.tail _ (by assumption)) | exact .tail _ (.tail _ (.tail _ (by assumption)))); (case i => assumption); (case b => assumption); (case d => with_unfolding_all rfl); (case e => (intro _; with_unfolding_all rfl))); intro tS))
local macro_rules | `(tactic| walk_at "subscriptTail") => `(tactic| (k_here; (with_reducible show wpAny _ _ (subscriptTail _ _ (Value.ref _) (Value.int 0 _)) _ _ _); (refine' PySem.W.ksa_sub ?N ?m ?i (by decide) ?b (by decide) ?_ ?d; (case N => k_asm); (case m => first | assumption | exact .tail _ (by assumption) | exact .tail _ (.tail _ (by assumption)) | exact .tail _ (.tail _ (.tail _ (by assumption)))); (case i => assumption); (case b => assumption); (case d => with_unfolding_all rfl)); intro tS))


set_option maxHeartbeats 8000000 in
theorem loop2_due {w : World} {h₀ : Heap} {L fa wc : Addr} {m mg mb : Str → Option Value} {mean : ExcName → Option Value} {base : List (Addr × Obj)} {s : Shared} {P : Flow → Shared → Prop}
  (K0 : Below callerA h₀ [] h₀) (KX : (hd.heap_39 w.params).In h₀) (TT : Top hd.view_39 LO mean mg mb h₀)
  {xS dS aC aW aG : Addr} {es : List DictEntry} {full code last : Int} {ct : Tok} {wv cv gv : List Value} {cw cc cg : Nat} {wss : List (List Int)} {sg : List Int} {oc : Obj}
  (N : News h₀ L s.heap base) (SZ : SizesAt base xS dS es 7 full) (mW : (aW, listOf wv.toArray cw) ∈ base) (hW : WordsAre base wv wss) (hwl : wss.length ≤ 6)
  (mG : (aG, listOf gv.toArray cg) ∈ base) (iG : IntsAre gv sg) (len1 : 1 ≤ sg.length) (len7 : sg.length ≤ 7) (sgb : ∀ s ∈ sg, 0 ≤ s ∧ s < 4) (mC : (aC, listOf cv.toArray cc) ∈ base) (iC : IntsAre cv (4 :: sg))
  (mCell : (L + 1 + 1, oc) ∈ base) (dCell : oc.data = .cell (some (.ref aG))) (hlast : sg.getD (-1 + (sg.length : Int)).toNat 0 = last)
  (hc0 : 0 ≤ code) (hc1 : code < 100) (h4 : code ≠ 4) (h5 : code ≠ 5)
  (n1 : m (Str.ofString "codes") = some (.ref aC)) (n2 : m (Str.ofString "sizes") = some (.ref xS)) (n3 : m (Str.ofString "words") = some (.ref aW))
  (F : Fr h₀ L s.heap (fun y => if y = Str.ofString "code" then some (.int code ct) else m y))
  (next : ∀ m' base' h' tk dv, Fr h₀ L h' m' → News h₀ L h' base' → (∀ p ∈ base, p ∈ base') → m' (Str.ofString "codes") = some (.ref aC) → m' (Str.ofString "sizes") = some (.ref xS) → m' (Str.ofString "words") = some (.ref aW) → m' (Str.ofString "code") = some (.int code ct) → m' (Str.ofString "due") = some dv → 
    DueIs base' dv (wordOf full wss code [last]) → wpAny (model PySem.Challenge.rw_og0129_01.row.prog w) (callerA.deeper (lawEnv L fa (.ref wc))) (execs (inner2.drop 1) (lawEnv L fa (.ref wc))) P (fun _ _ => False) { s with heap := h', toks := tk }) :
  wpAny (model PySem.Challenge.rw_og0129_01.row.prog w) (callerA.deeper (lawEnv L fa (.ref wc))) (execs inner2 (lawEnv L fa (.ref wc))) P (fun _ _ => False) s := by
  obtain ⟨s1, s2, ⟨t1, s3⟩, ⟨t2, s4⟩, ⟨t3, s5⟩, ⟨t4, s6⟩⟩ := id SZ
  have hwv := hW.1
  have hgv := iG.length
  rw [pin3 n1 n2 n3] at F
  unfold lawEnv
  conv in inner2 => whnf
  conv in (occs := *) lawScope => all_goals whnf
  revert KX
  w_top off
  k_fill
  intro KX
  have hneg : -(sg.length : Int) ≤ -1 := by omega
  repeat' (first | (k_unfold; (try dsimp only)) | ((fail_if_success (with_reducible show wpAny _ _ (call (Value.ref 125) _) _ _ _)); walk1; (try dsimp only)) | fail "no step")
  (with_reducible rename Fr h₀ L _ _ => FF)
  (with_reducible rename News h₀ L _ _ => NN)
  rw [hlast] at NN
  have up : ∀ (x : Addr × Obj), ∀ p ∈ base, p ∈ x :: base := fun _ p hp => .tail _ hp
  refine heard_call K0 FF KX NN TT (Around.frames_deeper K0.stack) rfl rfl (by rw [depth_deeper]; decide) rfl (SZ.mono (up _)) (up _ _ mW) (hW.mono (up _)) (by omega) (.head _) (.cons _ _ .nil) (by simp) (by omega) (by omega) ?a ?b
  case a =>
    intro v ws h7 tk7 made hwo F7 N7 hv
    clear FF NN
    repeat' (first | (k_unfold; (try dsimp only)) | ((fail_if_success (with_reducible show wpAny _ _ (execs (PySem.Stmt.Try _ _ _ _ _ :: _) _) _ _ _)); walk1; (try dsimp only)) | fail "no step")
    (with_reducible rename Fr h₀ L _ _ => FF)
    (with_reducible rename News h₀ L _ _ => NN)
    exact next _ _ _ _ _ FF NN (fun p hp => List.mem_append_right _ (.tail _ hp)) rfl rfl rfl rfl rfl (by rw [hwo]; exact hv)
  case b =>
    intro h7 tk7 hwo F7 N7
    clear FF NN
    repeat' (first | (k_unfold; (try dsimp only)) | ((fail_if_success (with_reducible show wpAny _ _ (execs (PySem.Stmt.Try _ _ _ _ _ :: _) _) _ _ _)); walk1; (try dsimp only)) | fail "no step")
    (with_reducible rename Fr h₀ L _ _ => FF)
    (with_reducible rename News h₀ L _ _ => NN)
    exact next _ _ _ _ _ FF NN (fun p hp => .tail _ hp) rfl rfl rfl rfl rfl (by rw [hwo]; rfl)

set_option maxHeartbeats 8000000 in
theorem loop2_answer {w : World} {h₀ : Heap} {L fa wc : Addr} {m mg mb : Str → Option Value} {mean : ExcName → Option Value} {base : List (Addr × Obj)} {s : Shared} {P : Flow → Shared → Prop}
  (K0 : Below callerA h₀ [] h₀) (KX : (hd.heap_39 w.params).In h₀) (TT : Top hd.view_39 LO mean mg mb h₀)
  {xS dS aC aW aG : Addr} {es : List DictEntry} {full code last : Int} {ct : Tok} {wv cv gv : List Value} {cw cc cg : Nat} {wss : List (List Int)} {sg : List Int} {oc : Obj}
  (N : News h₀ L s.heap base) (SZ : SizesAt base xS dS es 7 full) (mW : (aW, listOf wv.toArray cw) ∈ base) (hW : WordsAre base wv wss) (hwl : wss.length ≤ 6)
  (mG : (aG, listOf gv.toArray cg) ∈ base) (iG : IntsAre gv sg) (len1 : 1 ≤ sg.length) (len7 : sg.length ≤ 7) (sgb : ∀ s ∈ sg, 0 ≤ s ∧ s < 4) (mC : (aC, listOf cv.toArray cc) ∈ base) (iC : IntsAre cv (4 :: sg))
  (mCell : (L + 1 + 1, oc) ∈ base) (dCell : oc.data = .cell (some (.ref aG))) (hlast : sg.getD (-1 + (sg.length : Int)).toNat 0 = last)
  (hc0 : 0 ≤ code) (hc1 : code < 100) (h4 : code ≠ 4) (h5 : code ≠ 5)
  (n1 : m (Str.ofString "codes") = some (.ref aC)) (n2 : m (Str.ofString "sizes") = some (.ref xS)) (n3 : m (Str.ofString "words") = some (.ref aW))
  {dv : Value} (n4 : m (Str.ofString "code") = some (.int code ct)) (n5 : m (Str.ofString "due") = some dv)
  (F : Fr h₀ L s.heap m)
  (next : ∀ m' base' h' tk av, Fr h₀ L h' m' → News h₀ L h' base' → (∀ p ∈ base, p ∈ base') → m' (Str.ofString "codes") = some (.ref aC) → m' (Str.ofString "sizes") = some (.ref xS) → m' (Str.ofString "words") = some (.ref aW) → m' (Str.ofString "code") = some (.int code ct) → m' (Str.ofString "due") = some dv →  m' (Str.ofString "answer") = some av →
    AnsIs base' av (unpk full (4 :: (sg ++ [code, 5, 0])) [] [] []) → wpAny (model PySem.Challenge.rw_og0129_01.row.prog w) (callerA.deeper (lawEnv L fa (.ref wc))) (execs (inner2.drop 2) (lawEnv L fa (.ref wc))) P (fun _ _ => False) { s with heap := h', toks := tk }) :
  wpAny (model PySem.Challenge.rw_og0129_01.row.prog w) (callerA.deeper (lawEnv L fa (.ref wc))) (execs (inner2.drop 1) (lawEnv L fa (.ref wc))) P (fun _ _ => False) s := by
  obtain ⟨s1, s2, ⟨t1, s3⟩, ⟨t2, s4⟩, ⟨t3, s5⟩, ⟨t4, s6⟩⟩ := id SZ
  have hwv := hW.1
  have hgv := iG.length
  have hcv := iC.length
  rw [pin5 n1 n2 n3 n4 n5] at F
  unfold lawEnv
  conv in (inner2.drop 1) => whnf
  conv in (occs := *) lawScope => all_goals whnf
  revert KX
  w_top off
  k_fill
  intro KX
  repeat' (first | (k_unfold; (try dsimp only)) | ((fail_if_success (with_reducible show wpAny _ _ (call (Value.ref 111) _) _ _ _)); walk1; (try dsimp only)) | fail "no step")
  refine wpAny_Try_except ?_
  repeat' (first | (k_unfold; (try dsimp only)) | ((fail_if_success (with_reducible show wpAny _ _ (call (Value.ref 111) _) _ _ _)); walk1; (try dsimp only)) | fail "no step")
  (with_reducible rename Fr h₀ L _ _ => FF)
  (with_reducible rename News h₀ L _ _ => NN)
  (with_reducible rename IntsAre _ (_ ++ _) => hI)
  have up : ∀ (x y : Addr × Obj), ∀ p ∈ base, p ∈ x :: y :: base := fun _ _ p hp => .tail _ (.tail _ hp)
  refine unpacked_call K0 FF KX NN TT (Around.frames_deeper K0.stack) rfl rfl (by rw [depth_deeper]; decide) rfl (SZ.mono (up _ _)) (.head _) hI (by simp only [List.length_append, List.length_cons, List.length_nil]; omega) ?small ?a ?b
  case small =>
    intro x hx
    rcases List.mem_append.mp hx with hx | hx
    · rcases List.mem_cons.mp hx with rfl | hx
      · decide
      · have := (sgb x hx).2; omega
    · simp only [List.mem_cons, List.not_mem_nil, or_false] at hx
      rcases hx with rfl | rfl | rfl <;> omega
  case a =>
    intro aR rv cR r h7 tk7 made hun F7 N7 hrm hri hrl
    clear FF NN
    repeat' (first | (k_unfold; (try dsimp only)) | ((fail_if_success (with_reducible show wpAny _ _ (execs (PySem.Stmt.If _ _ _ _ :: _) _) _ _ _)); walk1; (try dsimp only)) | fail "no step")
    (with_reducible rename Fr h₀ L _ _ => FF)
    (with_reducible rename News h₀ L _ _ => NN)
    exact next _ _ _ _ _ FF NN (fun p hp => List.mem_append_right _ (up _ _ p hp)) rfl rfl rfl rfl rfl rfl (by
      show AnsIs _ _ (unpk full (4 :: sg ++ [code, 5, 0]) [] [] [])
      rw [hun]
      exact ⟨aR, rv, cR, rfl, hrm, hri⟩)
  case b =>
    intro e g h7 tk7 hno Fg sm R
    refine caught_ff K0.stack rfl Fg sm R (fun h₅ hk => FFAt.of (KX.keeps hk)) ?nm ?k (by passes_own)
    case nm =>
      intro A' h₅ Q' E' F5 hq
      walk1
      exact hq
    case k =>
      intro h8 sm8 F8 N8
      clear FF NN
      repeat' (first | (k_unfold; (try dsimp only)) | ((fail_if_success (with_reducible show wpAny _ _ (execs (PySem.Stmt.If _ _ _ _ :: _) _) _ _ _)); walk1; (try dsimp only)) | fail "no step")
      (with_reducible rename Fr h₀ L _ _ => FF)
      (with_reducible rename News h₀ L _ _ => NN)
      exact next _ _ _ _ _ FF NN (fun p hp => up _ _ p hp) rfl rfl rfl rfl rfl rfl (by
        show AnsIs _ _ (unpk full (4 :: sg ++ [code, 5, 0]) [] [] [])
        rw [hno]; rfl)
end Mine

namespace Mine
local macro_rules | `(tactic| k_mem) => `(tactic| assumption)
local macro_rules | `(tactic| k_get) => `(tactic| assumption)
local macro_rules | `(tactic| walk_at "call builtin:len") => `(tactic| (k_here; (with_reducible show wpAny _ _ (call (Value.builtin "len") [Value.ref _]) _ _ _); (refine' len_list (News.isList ?N ?m) ?f ?_); (case N => k_asm); (case m => first | k_mem | exact .tail _ (by assumption)); (case f => (rw [List.size_toArray]; omega)); k_whole; (try simp only [List.size_toArray])))
local macro_rules | `(tactic| walk_at "subscriptTail") => `(tactic| (k_here; (with_reducible show wpAny _ _ (subscriptTail _ _ (Value.ref _) (Value.int (-1) _)) _ _ _); (refine' item_list_ints_neg (News.isList ?N ?m) ?i (by decide) ?b (by decide) ?_ ?d ?e; (case N => k_asm); (case m => first | assumption | exact .tail _ (by assumption) | exact .tail _ (.tail _ (by assumption)) | exact .tail _ (.tail _ (.tail _ (by assumption)))); (case i => assumption); (case b => assumption); (case d => with_unfolding_all rfl); (case e => (intro _; with_unfolding_all rfl))); intro tS))
local macro_rules | `(tactic| walk_at "subscriptTail") => `(tactic| (k_here; (with_reducible show wpAny _ _ (subscriptTail _ _ (Value.ref _) (Value.int 0 _)) _ _ _); (refine' PySem.W.ksa_sub ?N ?m ?i (by decide) ?b (by decide) ?_ ?d; (case N => k_asm); (case m => first | assumption | exact .tail _ (by assumption) | exact .tail _ (.tail _ (by assumption)) | exact .tail _ (.tail _ (.tail _ (by assumption)))); (case i => assumption); (case b => assumption); (case d => with_unfolding_all rfl)); intro tS))


set_option maxHeartbeats 8000000 in
theorem loop2_eq {w : World} {h₀ : Heap} {L fa wc : Addr} {m mg mb : Str → Option Value} {mean : ExcName → Option Value} {base : List (Addr × Obj)} {s : Shared} {P : Flow → Shared → Prop}
  (K0 : Below callerA h₀ [] h₀) (KX : (hd.heap_39 w.params).In h₀) (TT : Top hd.view_39 LO mean mg mb h₀)
  {xS dS aC aW aG : Addr} {es : List DictEntry} {full code last : Int} {ct : Tok} {wv cv gv : List Value} {cw cc cg : Nat} {wss : List (List Int)} {sg : List Int} {oc : Obj}
  (N : News h₀ L s.heap base) (SZ : SizesAt base xS dS es 7 full) (mW : (aW, listOf wv.toArray cw) ∈ base) (hW : WordsAre base wv wss) (hwl : wss.length ≤ 6)
  (mG : (aG, listOf gv.toArray cg) ∈ base) (iG : IntsAre gv sg) (len1 : 1 ≤ sg.length) (len7 : sg.length ≤ 7) (sgb : ∀ s ∈ sg, 0 ≤ s ∧ s < 4) (mC : (aC, listOf cv.toArray cc) ∈ base) (iC : IntsAre cv (4 :: sg))
  (mCell : (L + 1 + 1, oc) ∈ base) (dCell : oc.data = .cell (some (.ref aG))) (hlast : sg.getD (-1 + (sg.length : Int)).toNat 0 = last)
  (hc0 : 0 ≤ code) (hc1 : code < 100) (h4 : code ≠ 4) (h5 : code ≠ 5)
  (n1 : m (Str.ofString "codes") = some (.ref aC)) (n2 : m (Str.ofString "sizes") = some (.ref xS)) (n3 : m (Str.ofString "words") = some (.ref aW))
  {dv av : Value} {od : Option (List Int)} (n4 : m (Str.ofString "code") = some (.int code ct)) (n5 : m (Str.ofString "due") = some dv) (n6 : m (Str.ofString "answer") = some av)
  (hdv : DueIs base dv od) (hav : AnsIs base av (od.map (sg ++ ·))) (hdl : ∀ ds, od = some ds → ds.length ≤ 10)
  (F : Fr h₀ L s.heap m)
  (next : ∀ m' base' h' tk, Fr h₀ L h' m' → News h₀ L h' base' → (∀ p ∈ base, p ∈ base') → m' (Str.ofString "codes") = some (.ref aC) → m' (Str.ofString "sizes") = some (.ref xS) → m' (Str.ofString "words") = some (.ref aW) → m' (Str.ofString "code") = some (.int code ct) → m' (Str.ofString "due") = some dv → 
    wpAny (model PySem.Challenge.rw_og0129_01.row.prog w) (callerA.deeper (lawEnv L fa (.ref wc))) (execs (inner2.drop 3) (lawEnv L fa (.ref wc))) P (fun _ _ => False) { s with heap := h', toks := tk }) :
  wpAny (model PySem.Challenge.rw_og0129_01.row.prog w) (callerA.deeper (lawEnv L fa (.ref wc))) (execs (inner2.drop 2) (lawEnv L fa (.ref wc))) P (fun _ _ => False) s := by
  obtain ⟨s1, s2, ⟨t1, s3⟩, ⟨t2, s4⟩, ⟨t3, s5⟩, ⟨t4, s6⟩⟩ := id SZ
  have hgv := iG.length
  rw [pin6 n1 n2 n3 n4 n5 n6] at F
  unfold lawEnv
  conv in (inner2.drop 2) => whnf
  conv in (occs := *) lawScope => all_goals whnf
  revert KX
  w_top off
  k_fill
  intro KX
  cases od with
  | none =>
    cases hdv
    cases hav
    repeat' (first | (k_unfold; (try dsimp only)) | ((fail_if_success (with_reducible show wpAny _ _ (execs [PySem.Stmt.If (PySem.Expr.BoolOp _ _ _) _ _ _] _) _ _ _)); walk1; (try dsimp only)) | fail "no step")
    (with_reducible rename Fr h₀ L _ _ => FF)
    (with_reducible rename News h₀ L _ _ => NN)
    exact next _ _ _ _ FF NN (fun p hp => hp) rfl rfl rfl rfl rfl
  | some ds =>
    obtain ⟨aD, dvs, rfl, hdm, hdi⟩ := hdv
    obtain ⟨aA, avs, cA, rfl, ham, hai⟩ := hav
    have hd10 := hdl ds rfl
    have hdvl := hdi.length
    repeat' (first | (k_unfold; (try dsimp only)) | ((fail_if_success (with_reducible show wpAny _ _ (execs [PySem.Stmt.If (PySem.Expr.BoolOp _ _ _) _ _ _] _) _ _ _)); walk1; (try dsimp only)) | fail "no step")
    (with_reducible rename Fr h₀ L _ _ => FF)
    (with_reducible rename News h₀ L _ _ => NN)
    refine kup_listOfT (its2 := dvs.toArray) (zs := dvs) FF NN hdm rfl (fun aL cL h7 F7 N7 l7 => ?_) (by rw [sizeLine_eq]; show dvs.length ≤ _; omega)
    clear FF NN
    have mG' : (aG, listOf gv.toArray cg) ∈ (aL, listOf dvs.toArray cL) :: base := .tail _ mG
    repeat' (first | (k_unfold; (try dsimp only)) | ((fail_if_success (with_reducible show wpAny _ _ (execs [PySem.Stmt.If (PySem.Expr.BoolOp _ _ _) _ _ _] _) _ _ _)); (fail_if_success (with_reducible show wpAny _ _ (compareOp CmpOp.NotEq _ _) _ _ _)); walk1; (try dsimp only)) | fail "no step")
    (with_reducible rename News h₀ L _ _ => NN)
    (with_reducible rename IntsAre _ (_ ++ _) => hI)
    refine ke_ne_ints (News.isList NN (.tail _ (.tail _ ham))) (News.isList NN (.head _)) hai hI (by simp only [units_in1, units_deeper]; decide) ?_
    rw [decide_eq_true rfl]
    repeat' (first | (k_unfold; (try dsimp only)) | ((fail_if_success (with_reducible show wpAny _ _ (execs [PySem.Stmt.If (PySem.Expr.BoolOp _ _ _) _ _ _] _) _ _ _)); walk1; (try dsimp only)) | fail "no step")
    (with_reducible rename Fr h₀ L _ _ => FF)
    (with_reducible rename News h₀ L _ _ => NN)
    exact next _ _ _ _ FF NN (fun p hp => .tail _ (.tail _ hp)) rfl rfl rfl rfl rfl
end Mine

namespace Mine
local macro_rules | `(tactic| k_mem) => `(tactic| assumption)
local macro_rules | `(tactic| k_get) => `(tactic| assumption)
local macro_rules | `(tactic| walk_at "call builtin:len") => `(tactic| (k_here; (with_reducible show wpAny _ _ (call (Value.builtin "len") [Value.ref _]) _ _ _); (refine' len_list (News.isList ?N ?m) ?f ?_); (case N => k_asm); (case m => first | k_mem | exact .tail _ (by assumption)); (case f => (rw [List.size_toArray]; omega)); k_whole; (try simp only [List.size_toArray])))
local macro_rules | `(tactic| walk_at "subscriptTail") => `(tactic| (k_here; (with_reducible show wpAny _ _ (subscriptTail _ _ (Value.ref _) (Value.int (-1) _)) _ _ _); (refine' item_list_ints_neg (News.isList ?N ?m) ?i (by decide) ?b (by decide) ?_ ?d ?e; (case N => k_asm); (case m => first | assumption | exact .tail _ (by assumption) | exact .tail _ (.tail _ (by assumption)) | exact .tail _ (.tail _ (.tail _ (by assumption)))); (case i => assumption); (case b => assumption); (case d => with_unfolding_all rfl); (case e => (intro _; with_unfolding_all rfl))); intro tS))
local macro_rules | `(tactic| walk_at "subscriptTail") => `(tactic| (k_here; (with_reducible show wpAny _ _ (subscriptTail _ _ (Value.ref _) (Value.int 0 _)) _ _ _); (refine' PySem.W.ksa_sub ?N ?m ?i (by decide) ?b (by decide) ?_ ?d; (case N => k_asm); (case m => first | assumption | exact .tail _ (by assumption) | exact .tail _ (.tail _ (by assumption)) | exact .tail _ (.tail _ (.tail _ (by assumption)))); (case i => assumption); (case b => assumption); (case d => with_unfolding_all rfl)); intro tS))


set_option maxHeartbeats 8000000 in
theorem loop2_last {w : World} {h₀ : Heap} {L fa wc : Addr} {m mg mb : Str → Option Value} {mean : ExcName → Option Value} {base : List (Addr × Obj)} {s : Shared} {P : Flow → Shared → Prop}
  (K0 : Below callerA h₀ [] h₀) (KX : (hd.heap_39 w.params).In h₀) (TT : Top hd.view_39 LO mean mg mb h₀)
  {xS dS aC aW aG : Addr} {es : List DictEntry} {full code last : Int} {ct : Tok} {wv cv gv : List Value} {cw cc cg : Nat} {wss : List (List Int)} {sg : List Int} {oc : Obj}
  (N : News h₀ L s.heap base) (SZ : SizesAt base xS dS es 7 full) (mW : (aW, listOf wv.toArray cw) ∈ base) (hW : WordsAre base wv wss) (hwl : wss.length ≤ 6)
  (mG : (aG, listOf gv.toArray cg) ∈ base) (iG : IntsAre gv sg) (len1 : 1 ≤ sg.length) (len7 : sg.length ≤ 7) (sgb : ∀ s ∈ sg, 0 ≤ s ∧ s < 4) (mC : (aC, listOf cv.toArray cc) ∈ base) (iC : IntsAre cv (4 :: sg))
  (mCell : (L + 1 + 1, oc) ∈ base) (dCell : oc.data = .cell (some (.ref aG))) (hlast : sg.getD (-1 + (sg.length : Int)).toNat 0 = last)
  (hc0 : 0 ≤ code) (hc1 : code < 100) (h4 : code ≠ 4) (h5 : code ≠ 5)
  (n1 : m (Str.ofString "codes") = some (.ref aC)) (n2 : m (Str.ofString "sizes") = some (.ref xS)) (n3 : m (Str.ofString "words") = some (.ref aW))
  {dv : Value} {od : Option (List Int)} (n4 : m (Str.ofString "code") = some (.int code ct)) (n5 : m (Str.ofString "due") = some dv)
  (hfull : full = 8 ∨ full = 16)
  (hdv : DueIs base dv od) (hne : ∀ ds, od = some ds → ds ≠ [] ∧ ds.length ≤ 10)
  (hp2 : ∀ ds, od = some ds → (wss.length : Int) < full - 6 → unpk full (4 :: (sg ++ [code, 6 + (wss.length : Int), 5])) [] [] [] = some (sg ++ ds ++ (last :: ds.take 1)))
  (hp3 : ∀ ds, od = some ds → code = 6 + (wss.length : Int) → ds = last :: ds.take 1)
  (F : Fr h₀ L s.heap m)
  (hk : ∀ m' h' tk, Fr h₀ L h' m' → News h₀ L h' base → m' (Str.ofString "codes") = some (.ref aC) → m' (Str.ofString "sizes") = some (.ref xS) → m' (Str.ofString "words") = some (.ref aW) → P .next { s with heap := h', toks := tk }) :
  wpAny (model PySem.Challenge.rw_og0129_01.row.prog w) (callerA.deeper (lawEnv L fa (.ref wc))) (execs (inner2.drop 3) (lawEnv L fa (.ref wc))) P (fun _ _ => False) s := by
  obtain ⟨s1, s2, ⟨t1, s3⟩, ⟨t2, s4⟩, ⟨t3, s5⟩, ⟨t4, s6⟩⟩ := id SZ
  have hwv := hW.1
  have hgv := iG.length
  have hcv := iC.length
  rw [pin5 n1 n2 n3 n4 n5] at F
  unfold lawEnv
  conv in (inner2.drop 3) => whnf
  conv in (occs := *) lawScope => all_goals whnf
  revert KX
  w_top off
  k_fill
  intro KX
  have hneg : -(sg.length : Int) ≤ -1 := by omega
  cases od with
  | none =>
    cases hdv
    repeat' (first | (k_unfold; (try dsimp only)) | ((fail_if_success (with_reducible show wpAny _ _ (call (Value.ref 111) _) _ _ _)); (fail_if_success (with_reducible show wpAny _ _ (call (Value.type "list") _) _ _ _)); (fail_if_success (with_reducible show wpAny _ _ (compareOp CmpOp.NotEq _ _) _ _ _)); walk1; (try dsimp only)) | fail "no step")
    (with_reducible rename Fr h₀ L _ _ => FF)
    (with_reducible rename News h₀ L _ _ => NN)
    exact hk _ _ _ FF NN rfl rfl rfl
  | some ds =>
    obtain ⟨aD, dvs, rfl, hdm, hdi⟩ := hdv
    obtain ⟨hdn, hd10⟩ := hne ds rfl
    have hdvl := hdi.length
    obtain ⟨d0, dr, rfl⟩ := List.exists_cons_of_ne_nil hdn
    cases hdi with
    | cons _ d0t hdr =>
    rename_i dvr
    repeat' (first | (k_unfold; (try dsimp only)) | ((fail_if_success (with_reducible show wpAny _ _ (call (Value.ref 111) _) _ _ _)); (fail_if_success (with_reducible show wpAny _ _ (call (Value.type "list") _) _ _ _)); (fail_if_success (with_reducible show wpAny _ _ (compareOp CmpOp.NotEq _ _) _ _ _)); walk1; (try dsimp only)) | fail "no step")
    · have hwl3 : (wv.length : Int) < full - 6 := by assumption
      (with_reducible rename News h₀ L _ _ => NN)
      have e2 := hp2 _ rfl (by omega)
      have e3 := hp3 _ rfl
      refine item_tupleL (l := Value.int d0 d0t :: dvr) (j := 0) (x := Value.int d0 d0t) ⟨_, (NN _ hdm).1, rfl, _, rfl⟩ (by decide) (by decide) (by simp [seqIndex?]) rfl ?_
      repeat' (first | (k_unfold; (try dsimp only)) | ((fail_if_success (with_reducible show wpAny _ _ (call (Value.ref 111) _) _ _ _)); (fail_if_success (with_reducible show wpAny _ _ (call (Value.type "list") _) _ _ _)); (fail_if_success (with_reducible show wpAny _ _ (compareOp CmpOp.NotEq _ _) _ _ _)); walk1; (try dsimp only)) | fail "no step")
      (with_reducible rename Fr h₀ L _ _ => FF)
      (with_reducible rename News h₀ L _ _ => NN)
      (with_reducible rename IntsAre _ (_ ++ _) => hI)
      rw [hlast] at NN
      have up : ∀ (x y z : Addr × Obj), ∀ p ∈ base, p ∈ x :: y :: z :: base := fun _ _ _ p hp => .tail _ (.tail _ (.tail _ hp))
      refine unpacked_call K0 FF KX NN TT (Around.frames_deeper K0.stack) rfl rfl (by rw [depth_deeper]; decide) rfl (SZ.mono (up _ _ _)) (.head _) hI (by simp only [List.length_append, List.length_cons, List.length_nil]; omega) ?small ?a ?b
      case small =>
        intro x hx
        rcases List.mem_append.mp hx with hx | hx
        · rcases List.mem_cons.mp hx with rfl | hx
          · decide
          · have := (sgb x hx).2; omega
        · simp only [List.mem_cons, List.not_mem_nil, or_false] at hx
          rcases hx with rfl | rfl | rfl <;> omega
      case b =>
        intro e g h7 tk7 hno Fg sm R
        exfalso
        rw [hwv] at hno
        rw [show (4 :: sg ++ [code, 6 + (wss.length : Int), 5]) = 4 :: (sg ++ [code, 6 + (wss.length : Int), 5]) from rfl, e2] at hno
        cases hno
      case a =>
        intro aR rv cR r h7 tk7 made hun F7 N7 hrm hri hrl
        rw [hwv, show (4 :: sg ++ [code, 6 + (wss.length : Int), 5]) = 4 :: (sg ++ [code, 6 + (wss.length : Int), 5]) from rfl, e2] at hun
        cases hun
        obtain ⟨b2, N8, ⟨up2, mR, aP, tS, mP, FP⟩, _⟩ := newsGen (R := fun b => (∀ p ∈ base, p ∈ b) ∧ (aR, listOf rv.toArray cR) ∈ b ∧ ∃ aP tS, (aP, tupO [.int last tS, .int d0 d0t]) ∈ b ∧ Fr h₀ L h7 (fun y => if y = Str.ofString "put_in" then some (.ref aP) else if y = Str.ofString "codes" then some (.ref aC) else if y = Str.ofString "sizes" then some (.ref xS) else if y = Str.ofString "words" then some (.ref aW) else if y = Str.ofString "code" then some (.int code ct) else if y = Str.ofString "due" then some (.ref aD) else m y)) N7
          ⟨fun p hp => List.mem_append_right _ (up _ _ _ p hp), hrm, _, _, List.mem_append_right _ (.tail _ (.tail _ (.head _))), F7⟩
        clear FF NN F7 N7
        have mW2 := up2 _ mW
        have mG2 := up2 _ mG
        have mC2 := up2 _ mCell
        have mD2 := up2 _ hdm
        repeat' (first | (k_unfold; (try dsimp only)) | ((fail_if_success (with_reducible show wpAny _ _ (call (Value.ref 111) _) _ _ _)); (fail_if_success (with_reducible show wpAny _ _ (call (Value.type "list") _) _ _ _)); (fail_if_success (with_reducible show wpAny _ _ (compareOp CmpOp.NotEq _ _) _ _ _)); walk1; (try dsimp only)) | fail "no step")
        (with_reducible rename Fr h₀ L _ _ => F9)
        (with_reducible rename News h₀ L _ _ => N9)
        have hiD : IntsAre (Value.int d0 d0t :: dvr) (d0 :: dr) := .cons _ _ hdr
        refine kup_listOfT (its2 := (Value.int d0 d0t :: dvr).toArray) (zs := Value.int d0 d0t :: dvr) F9 N9 mD2 rfl (fun aL cL h10 F10 N10 l10 => ?_) (by rw [sizeLine_eq]; show (Value.int d0 d0t :: dvr).length ≤ _; omega)
        clear F9 N9
        have mG3 : (aG, listOf gv.toArray cg) ∈ (aL, listOf (Value.int d0 d0t :: dvr).toArray cL) :: b2 := .tail _ mG2
        repeat' (first | (k_unfold; (try dsimp only)) | ((fail_if_success (with_reducible show wpAny _ _ (call (Value.ref 111) _) _ _ _)); (fail_if_success (with_reducible show wpAny _ _ (call (Value.type "list") _) _ _ _)); (fail_if_success (with_reducible show wpAny _ _ (compareOp CmpOp.NotEq _ _) _ _ _)); walk1; (try dsimp only)) | fail "no step")
        (with_reducible rename Fr h₀ L _ _ => F11)
        (with_reducible rename News h₀ L _ _ => N11)
        (with_reducible rename IntsAre _ (_ ++ _) => hI11)
        have hiP : IntsAre [Value.int last tS, Value.int d0 d0t] [last, d0] := .cons _ _ (.cons _ _ .nil)
        refine kup_listOfT (its2 := [Value.int last tS, Value.int d0 d0t].toArray) (zs := [Value.int last tS, Value.int d0 d0t]) F11 N11 (.tail _ (.tail _ mP)) rfl (fun aL2 cL2 h12 F12 N12 l12 => ?_) (by rw [sizeLine_eq]; show 2 ≤ 16777216; decide)
        clear F11 N11
        repeat' (first | (k_unfold; (try dsimp only)) | ((fail_if_success (with_reducible show wpAny _ _ (call (Value.ref 111) _) _ _ _)); (fail_if_success (with_reducible show wpAny _ _ (call (Value.type "list") _) _ _ _)); (fail_if_success (with_reducible show wpAny _ _ (compareOp CmpOp.NotEq _ _) _ _ _)); walk1; (try dsimp only)) | fail "no step")
        (with_reducible rename News h₀ L _ _ => N13)
        (with_reducible rename IntsAre _ (_ ++ _ ++ _) => hI13)
        have hri2 : IntsAre rv (sg ++ d0 :: dr ++ [last, d0]) := hri
        refine ke_ne_ints (News.isList N13 (.tail _ (.tail _ (.tail _ (.tail _ mR))))) (News.isList N13 (.head _)) hri2 hI13 (by simp only [units_in1, units_deeper]; decide) ?_
        rw [decide_eq_true rfl]
        have N14 : News h₀ L _ b2 := News.sub' N13 (fun p hp => .tail _ (.tail _ (.tail _ (.tail _ hp))))
        clear N13
        repeat' (first | (k_unfold; (try dsimp only)) | ((fail_if_success (with_reducible show wpAny _ _ (call (Value.ref 111) _) _ _ _)); (fail_if_success (with_reducible show wpAny _ _ (call (Value.type "list") _) _ _ _)); (fail_if_success (with_reducible show wpAny _ _ (compareOp CmpOp.NotEq _ _) _ _ _)); walk1; (try dsimp only)) | fail "no step")
        · have hce : code = 6 + (wv.length : Int) := by assumption
          (with_reducible rename News h₀ L _ _ => N15)
          refine ne_tups N15 mD2 mP hiD hiP (by simp only [units_in1, units_deeper]; decide) ?_
          rw [decide_eq_true (show d0 :: dr = [last, d0] from e3 (by omega))]
          repeat' (first | (k_unfold; (try dsimp only)) | ((fail_if_success (with_reducible show wpAny _ _ (call (Value.ref 111) _) _ _ _)); (fail_if_success (with_reducible show wpAny _ _ (call (Value.type "list") _) _ _ _)); (fail_if_success (with_reducible show wpAny _ _ (compareOp CmpOp.NotEq _ _) _ _ _)); walk1; (try dsimp only)) | fail "no step")
          (with_reducible rename Fr h₀ L _ _ => FF)
          (with_reducible rename News h₀ L _ _ => NN)
          exact hk _ _ _ FF (News.sub' NN up2) rfl rfl rfl
        · (with_reducible rename Fr h₀ L _ _ => FF)
          (with_reducible rename News h₀ L _ _ => NN)
          exact hk _ _ _ FF (News.sub' NN up2) rfl rfl rfl
    · (with_reducible rename Fr h₀ L _ _ => FF)
      (with_reducible rename News h₀ L _ _ => NN)
      exact hk _ _ _ FF NN rfl rfl rfl
end Mine

namespace Mine

def grow (full : Int) (ws : List (List Int)) (b : Int) : List Int → List (List Int)
  | [] => ws
  | s :: r => grow full (if 6 + (ws.length : Int) < full then ws ++ [[b, s]] else ws) s r
def lastOf (b : Int) : List Int → Int
  | [] => b
  | s :: r => lastOf s r
theorem wordOf_sign {full : Int} {ws : List (List Int)} {s : Int} {bf : List Int} (h : s < 4) : wordOf full ws s bf = some [s] := by
  unfold wordOf; rw [if_pos h]
theorem unpk_step {full c : Int} {cs sg : List Int} {ws : List (List Int)} {bf v : List Int} (h5 : c ≠ 5) (h4 : c ≠ 4) (hw : wordOf full ws c bf = some v) :
    unpk full (c :: cs) sg ws bf = unpk full cs (sg ++ v) (if bf ≠ [] ∧ 6 + (ws.length : Int) < full then ws ++ [bf ++ v.take 1] else ws) v := by
  rw [unpk, if_neg h5, if_neg h4, hw]
theorem unpk_fault {full c : Int} {cs sg : List Int} {ws : List (List Int)} {bf : List Int} (h5 : c ≠ 5) (h4 : c ≠ 4) (hw : wordOf full ws c bf = none) : unpk full (c :: cs) sg ws bf = none := by
  rw [unpk, if_neg h5, if_neg h4, hw]
theorem unpk_end {full : Int} {cs sg : List Int} {ws : List (List Int)} {bf : List Int} : unpk full (5 :: cs) sg ws bf = some sg := by
  rw [unpk, if_pos rfl]
theorem unpk_clear {full : Int} {cs sg : List Int} {ws : List (List Int)} {bf : List Int} : unpk full (4 :: cs) sg ws bf = unpk full cs sg [] [] := by
  rw [unpk, if_neg (by decide), if_pos rfl]
theorem unpk_run {full : Int} {rest : List Int} : ∀ (r : List Int) (b : Int) (acc : List Int) (ws : List (List Int)), (∀ s ∈ r, 0 ≤ s ∧ s < 4) →
    unpk full (r ++ rest) acc ws [b] = unpk full rest (acc ++ r) (grow full ws b r) [lastOf b r]
  | [], b, acc, ws, _ => by simp [grow, lastOf]
  | s :: r, b, acc, ws, h => by
    have hs := h s (.head _)
    show unpk full (s :: (r ++ rest)) acc ws [b] = _
    rw [unpk_step (by omega) (by omega) (wordOf_sign hs.2), unpk_run r s _ _ fun x hx => h x (.tail _ hx)]
    have e : (if [b] ≠ [] ∧ 6 + (ws.length : Int) < full then ws ++ [[b] ++ [s].take 1] else ws) = (if 6 + (ws.length : Int) < full then ws ++ [[b, s]] else ws) := by
      by_cases q : 6 + (ws.length : Int) < full <;> simp [q]
    rw [e]
    simp [grow, lastOf]
theorem grow_eq {full : Int} {k : Nat} (hk : full = 6 + (k : Int)) : ∀ (r : List Int) (b : Int) (ws : List (List Int)), ws.length ≤ k → grow full ws b r = (ws ++ pairs (b :: r)).take k
  | [], b, ws, h => by simp [grow, pairs, List.take_of_length_le h]
  | s :: r, b, ws, h => by
    rw [grow, pairs]
    by_cases q : 6 + (ws.length : Int) < full
    · rw [if_pos q, grow_eq hk r s _ (by rw [List.length_append, List.length_singleton]; omega)]
      simp
    · rw [if_neg q, grow_eq hk r s ws h]
      have e : ws.length = k := by omega
      rw [List.take_append_of_le_length (by omega), List.take_append_of_le_length (by omega)]
theorem unpk_signs {full : Int} {k : Nat} (hk : full = 6 + (k : Int)) {s : Int} {r rest acc : List Int} {ws : List (List Int)} {bf : List Int} (h : ∀ x ∈ s :: r, 0 ≤ x ∧ x < 4) :
    unpk full (4 :: ((s :: r) ++ rest)) acc ws bf = unpk full rest (acc ++ s :: r) ((pairs (s :: r)).take k) [lastOf s r] := by
  have hs := h s (.head _)
  rw [unpk_clear]
  show unpk full (s :: (r ++ rest)) acc [] [] = _
  rw [unpk_step (by omega) (by omega) (wordOf_sign hs.2), if_neg (by simp), unpk_run r s _ _ fun x hx => h x (.tail _ hx), grow_eq hk r s [] (Nat.zero_le _)]
  simp

section
variable {full : Int} {k : Nat} (hk : full = 6 + (k : Int)) {s : Int} {r : List Int} (h : ∀ x ∈ s :: r, 0 ≤ x ∧ x < 4)
include hk h
theorem law_p1 {code : Int} (h4 : code ≠ 4) (h5 : code ≠ 5) :
    unpk full (4 :: ((s :: r) ++ [code, 5, 0])) [] [] [] = (wordOf full ((pairs (s :: r)).take k) code [lastOf s r]).map ((s :: r) ++ ·) := by
  rw [unpk_signs hk h]
  cases q : wordOf full ((pairs (s :: r)).take k) code [lastOf s r] with
  | none => rw [unpk_fault h5 h4 q]; rfl
  | some v => rw [unpk_step h5 h4 q, unpk_end]; simp
theorem law_p2 {code : Int} {v : List Int} (h4 : code ≠ 4) (h5 : code ≠ 5) (q : wordOf full ((pairs (s :: r)).take k) code [lastOf s r] = some v) (hl : ((pairs (s :: r)).take k).length < k) :
    unpk full (4 :: ((s :: r) ++ [code, 6 + (((pairs (s :: r)).take k).length : Int), 5])) [] [] [] = some ((s :: r) ++ v ++ (lastOf s r :: v.take 1)) := by
  rw [unpk_signs hk h, unpk_step h5 h4 q, if_pos ⟨by simp, by omega⟩]
  generalize (pairs (s :: r)).take k = wss at q hl ⊢
  have e : wordOf full (wss ++ [[lastOf s r] ++ v.take 1]) (6 + (wss.length : Int)) v = some (lastOf s r :: v.take 1) := by
    unfold wordOf
    rw [if_neg (by omega), if_pos (by rw [List.length_append, List.length_singleton]; omega), show (6 + (wss.length : Int) - 6).toNat = wss.length by omega]
    simp
  rw [unpk_step (by omega) (by omega) e, unpk_end]
  simp
theorem law_two : unpk full (4 :: ((s :: r) ++ 4 :: (s :: r))) [] [] [] = some ((s :: r) ++ (s :: r)) := by
  rw [unpk_signs hk h]
  have e := unpk_signs (rest := []) hk h (acc := [] ++ s :: r) (ws := (pairs (s :: r)).take k) (bf := [lastOf s r])
  rw [List.append_nil] at e
  rw [e, unpk]
  simp
end
theorem law_p3 {full code : Int} {wss : List (List Int)} {b : Int} {v : List Int} (q : wordOf full wss code [b] = some v) (hc : code = 6 + (wss.length : Int)) : v = b :: v.take 1 := by
  unfold wordOf at q
  rw [if_neg (by omega), if_neg (by omega)] at q
  split at q
  · cases q; rfl
  · cases q

/-! the round trip -/
def wd (ew : List (List Int)) (c : Int) : List Int := if c < 4 then [c] else (ew[(c - 6).toNat]?).getD []
structure RT (full : Int) (ew : List (List Int)) (T : List (List Int × Int)) (n c : Int) (ws : List (List Int)) (bf : List Int) : Prop where
  nlt : n < full
  nn : n = 6 + (ew.length : Int)
  tab : ∀ a s e, lookT T [a, s] = some e → 6 ≤ e ∧ e < n ∧ wd ew e = wd ew a ++ [s] ∧ a < 6 + (ew.length : Int) ∧ (a < 4 ∨ 6 ≤ a)
  cok : (0 ≤ c ∧ c < 4) ∨ (6 ≤ c ∧ c < n)
  wne : wd ew c ≠ []
  dec : (ew = [] ∧ ws = [] ∧ bf = []) ∨ (ew = ws ++ [bf ++ (wd ew c).take 1] ∧ bf ≠ [])

theorem rt_word {full : Int} {ew : List (List Int)} {T : List (List Int × Int)} {n c : Int} {ws : List (List Int)} {bf : List Int} (R : RT full ew T n c ws bf) : wordOf full ws c bf = some (wd ew c) := by
  obtain ⟨nlt, nn, tab, cok, wne, dec⟩ := R
  unfold wordOf
  rcases cok with hc | hc
  · rw [if_pos hc.2]; unfold wd; rw [if_pos hc.2]
  · rw [if_neg (by omega)]
    rcases dec with ⟨rfl, rfl, rfl⟩ | ⟨he, hb⟩
    · simp only [List.length_nil] at nn; omega
    · have hl : ew.length = ws.length + 1 := by
        have := congrArg List.length he
        rw [List.length_append, List.length_singleton] at this
        exact this
      have hwd : wd ew c = (ew[(c - 6).toNat]?).getD [] := by unfold wd; rw [if_neg (by omega)]
      by_cases q : c - 6 < ws.length
      · rw [if_pos q]
        have e1 : ew[(c - 6).toNat]? = ws[(c - 6).toNat]? := by
          conv => lhs; rw [he]
          rw [List.getElem?_append_left (by omega)]
        rw [hwd, e1, List.getElem?_eq_getElem (by omega)]; rfl
      · rw [if_neg q, if_pos ⟨by omega, hb, by omega⟩]
        have e2 : (c - 6).toNat = ws.length := by omega
        have e1 : ew[(c - 6).toNat]? = some (bf ++ (wd ew c).take 1) := by
          conv => lhs; rw [he]
          rw [e2, List.getElem?_append_right (Nat.le_refl _), Nat.sub_self]; rfl
        have e3 : wd ew c = bf ++ (wd ew c).take 1 := by
          conv => lhs; rw [hwd, e1]
          rfl
        have e4 : (wd ew c).take 1 = bf.take 1 := by
          conv => lhs; rw [e3]
          rw [List.take_append_of_le_length (by have := List.length_pos_iff.mpr hb; omega)]
        rw [e4] at e3
        rw [← e3]

theorem lookT_snoc {T : List (List Int × Int)} {k k' : List Int} {n e : Int} (h : lookT (T ++ [(k, n)]) k' = some e) : lookT T k' = some e ∨ (k = k' ∧ e = n) := by
  unfold lookT at h ⊢
  rw [List.find?_append] at h
  cases q : T.find? (fun x => decide (x.1 = k')) with
  | some x => rw [q] at h; left; exact h
  | none =>
    rw [q] at h
    right
    simp only [Option.none_or, List.find?_cons, List.find?_nil] at h
    by_cases e1 : k = k'
    · simp [e1] at h; exact ⟨e1, h.symm⟩
    · simp [e1] at h
theorem wd_snoc {ew : List (List Int)} {w : List Int} {c : Int} (h : c < 6 + (ew.length : Int)) (h2 : c < 4 ∨ 6 ≤ c) : wd (ew ++ [w]) c = wd ew c := by
  unfold wd
  by_cases q : c < 4
  · rw [if_pos q, if_pos q]
  · rw [if_neg q, if_neg q, List.getElem?_append_left (by omega)]
theorem wd_last {ew : List (List Int)} {w : List Int} : wd (ew ++ [w]) (6 + (ew.length : Int)) = w := by
  unfold wd
  rw [if_neg (by omega), show (6 + (ew.length : Int) - 6).toNat = ew.length by omega]
  simp

theorem pack_trip {full : Int} (hfull : 7 < full) : ∀ (r cs : List Int) (T : List (List Int × Int)) (n c : Int) (ew ws : List (List Int)) (bf : List Int), (∀ s ∈ r, 0 ≤ s ∧ s < 4) → RT full ew T n c ws bf →
    ∃ tl, pack full r cs T n c = cs ++ tl ∧ ∀ acc, unpk full tl acc ws bf = some (acc ++ wd ew c ++ r)
  | [], cs, T, n, c, ew, ws, bf, _, R => by
    have hc0 : 0 ≤ c := by rcases R.cok with h | h <;> omega
    refine ⟨[c, 5], by rw [pack, if_pos hc0]; simp, fun acc => ?_⟩
    have h45 : c ≠ 5 ∧ c ≠ 4 := by rcases R.cok with h | h <;> omega
    rw [unpk_step h45.1 h45.2 (rt_word R), unpk_end]; simp
  | s :: r, cs, T, n, c, ew, ws, bf, h, R => by
    have hs := h s (.head _)
    have hr := fun x hx => h x (List.Mem.tail s hx)
    have hc0 : ¬ c < 0 := by rcases R.cok with h | h <;> omega
    have h45 : c ≠ 5 ∧ c ≠ 4 := by rcases R.cok with h | h <;> omega
    rw [pack, if_neg hc0]
    cases q : lookT T [c, s] with
    | some e =>
      obtain ⟨t1, t2, t3, _⟩ := R.tab c s e q
      have R2 : RT full ew T n e ws bf := by
        refine ⟨R.nlt, R.nn, R.tab, .inr ⟨t1, t2⟩, by rw [t3]; simp, ?_⟩
        rcases R.dec with d | ⟨d1, d2⟩
        · exact .inl d
        · right
          refine ⟨?_, d2⟩
          rw [t3, List.take_append_of_le_length (by have := List.length_pos_iff.mpr R.wne; omega)]
          exact d1
      obtain ⟨tl, p1, p2⟩ := pack_trip hfull r cs T n e ew ws bf hr R2
      exact ⟨tl, p1, fun acc => by rw [p2, t3]; simp⟩
    | none =>
      dsimp only
      have hstep : ∀ (tl acc : List Int), unpk full (c :: tl) acc ws bf = unpk full tl (acc ++ wd ew c) ew (wd ew c) := by
        intro tl acc
        rw [unpk_step h45.1 h45.2 (rt_word R)]
        congr 1
        rcases R.dec with ⟨d1, d2, d3⟩ | ⟨d1, d2⟩
        · rw [if_neg (by simp [d3]), d1, d2]
        · have hl := congrArg List.length d1
          rw [List.length_append, List.length_singleton] at hl
          rw [if_pos ⟨d2, by have := R.nlt; have := R.nn; omega⟩]
          exact d1.symm
      by_cases hf : full ≤ n + 1
      · rw [if_pos hf]
        have R2 : RT full [] [] 6 s [] [] := ⟨by omega, rfl, (fun a s e hh => by cases hh), .inl hs, by unfold wd; rw [if_pos hs.2]; simp, .inl ⟨rfl, rfl, rfl⟩⟩
        obtain ⟨tl, p1, p2⟩ := pack_trip hfull r (cs ++ [c] ++ [4]) [] 6 s [] [] [] hr R2
        refine ⟨c :: 4 :: tl, by rw [p1]; simp, fun acc => ?_⟩
        rw [hstep, unpk_clear, p2]
        unfold wd; rw [if_pos hs.2]; simp
      · rw [if_neg hf]
        have nn := R.nn
        have cb : c < 4 ∨ 6 ≤ c := by rcases R.cok with h | h <;> omega
        have cb2 : c < 6 + (ew.length : Int) := by rcases R.cok with h | h <;> omega
        have R2 : RT full (ew ++ [wd ew c ++ [s]]) (T ++ [([c, s], n)]) (n + 1) s ew (wd ew c) := by
          refine ⟨by omega, by rw [List.length_append, List.length_singleton]; omega, ?_, .inl hs, by unfold wd; rw [if_pos hs.2]; simp, .inr ⟨by unfold wd; rw [if_pos hs.2]; rfl, R.wne⟩⟩
          intro a s' e hh
          rcases lookT_snoc hh with h1 | ⟨k1, rfl⟩
          · obtain ⟨t1, t2, t3, t4, t5⟩ := R.tab a s' e h1
            refine ⟨t1, by omega, ?_, by rw [List.length_append, List.length_singleton]; omega, t5⟩
            rw [wd_snoc (by omega) (.inr t1), wd_snoc t4 t5, t3]
          · cases k1
            refine ⟨by omega, by omega, ?_, by rw [List.length_append, List.length_singleton]; omega, cb⟩
            rw [wd_snoc cb2 cb, nn, wd_last]
        obtain ⟨tl, p1, p2⟩ := pack_trip hfull r (cs ++ [c]) (T ++ [([c, s], n)]) (n + 1) s (ew ++ [wd ew c ++ [s]]) ew (wd ew c) hr R2
        refine ⟨c :: tl, by rw [p1]; simp, fun acc => ?_⟩
        rw [hstep, p2]
        rw [show wd (ew ++ [wd ew c ++ [s]]) s = [s] by unfold wd; rw [if_pos hs.2]]
        simp

theorem round_trip {full : Int} (hfull : 7 < full) {s : Int} {r : List Int} (h : ∀ x ∈ s :: r, 0 ≤ x ∧ x < 4) : unpk full (pack full (s :: r) [4] [] 6 (-1)) [] [] [] = some (s :: r) := by
  have hs := h s (.head _)
  rw [pack, if_pos (by decide)]
  have R : RT full [] [] 6 s [] [] := ⟨by omega, rfl, (fun a s e hh => by cases hh), .inl hs, by unfold wd; rw [if_pos hs.2]; simp, .inl ⟨rfl, rfl, rfl⟩⟩
  obtain ⟨tl, p1, p2⟩ := pack_trip hfull r [4] [] 6 s [] [] [] (fun x hx => h x (.tail _ hx)) R
  rw [p1]
  show unpk full (4 :: tl) [] [] [] = _
  rw [unpk_clear, p2]
  unfold wd; rw [if_pos hs.2]; rfl
theorem pack_len : ∀ {full : Int} (r cs : List Int) (T : List (List Int × Int)) (n c : Int), (pack full r cs T n c).length ≤ cs.length + 2 * r.length + 2
  | _, [], cs, T, n, c => by
    rw [pack]
    split <;> simp
  | full, s :: r, cs, T, n, c => by
    rw [pack]
    split
    · have := pack_len (full := full) r cs T n s; simp only [List.length_cons]; omega
    · split
      · rename_i e _
        have := pack_len (full := full) r cs T n e; simp only [List.length_cons]; omega
      · split
        · have := pack_len (full := full) r (cs ++ [c] ++ [4]) [] 6 s; simp only [List.length_cons, List.length_append, List.length_nil] at *; omega
        · have := pack_len (full := full) r (cs ++ [c]) (T ++ [([c, s], n)]) (n + 1) s; simp only [List.length_cons, List.length_append, List.length_nil] at *; omega
/-- all codes stay small -/
theorem pack_small : ∀ {full : Int} (r cs : List Int) (T : List (List Int × Int)) (n c : Int), 6 < full → n < full → full < 900 → c < 900 → (∀ x ∈ cs, x < 900) → (∀ k e, lookT T k = some e → e < n) → (∀ s ∈ r, s < 900) → ∀ x ∈ pack full r cs T n c, x < 900
  | _, [], cs, T, n, c, _, _, _, hc, hcs, _, _ => by
    intro x hx
    rw [pack] at hx
    split at hx <;> (simp only [List.mem_append, List.mem_singleton] at hx)
    · rcases hx with (h | h) | h
      · exact hcs x h
      · omega
      · omega
    · rcases hx with h | h
      · exact hcs x h
      · omega
  | full, s :: r, cs, T, n, c, h6, hn, hf, hc, hcs, hT, hr => by
    have hs := hr s (.head _)
    have hr' := fun x hx => hr x (List.Mem.tail s hx)
    rw [pack]
    split
    · exact pack_small r cs T n s h6 hn hf hs hcs hT hr'
    · split
      · rename_i e he
        exact pack_small r cs T n e h6 hn hf (by have := hT _ _ he; omega) hcs hT hr'
      · have hc1 : ∀ x ∈ cs ++ [c], x < 900 := fun x hx => by
          rcases List.mem_append.mp hx with h | h
          · exact hcs x h
          · rw [List.mem_singleton.mp h]; exact hc
        split
        · refine pack_small r _ [] 6 s h6 h6 hf hs (fun x hx => ?_) (fun k e he => by cases he) hr'
          rcases List.mem_append.mp hx with h | h
          · exact hc1 x h
          · rw [List.mem_singleton.mp h]; omega
        · refine pack_small r _ _ (n + 1) s h6 (by omega) hf hs hc1 (fun k e he => ?_) hr'
          rcases lookT_snoc he with h | ⟨_, h⟩
          · have := hT k e h; omega
          · omega
end Mine

namespace Mine
local macro_rules | `(tactic| k_mem) => `(tactic| assumption)
local macro_rules | `(tactic| k_get) => `(tactic| assumption)
local macro_rules | `(tactic| walk_at "call builtin:len") => `(tactic| (k_here; (with_reducible show wpAny _ _ (call (Value.builtin "len") [Value.ref _]) _ _ _); (refine' len_list (News.isList ?N ?m) ?f ?_); (case N => k_asm); (case m => first | k_mem | exact .tail _ (by assumption)); (case f => (rw [List.size_toArray]; omega)); k_whole; (try simp only [List.size_toArray])))
local macro_rules | `(tactic| walk_at "subscriptTail") => `(tactic| (k_here; (with_reducible show wpAny _ _ (subscriptTail _ _ (Value.ref _) (Value.int (-1) _)) _ _ _); (refine' item_list_ints_neg (News.isList ?N ?m) ?i (by decide) ?b (by decide) ?_ ?d ?e; (case N => k_asm); (case m => first | assumption | exact .tail _ (by assumption) | exact .tail _ (.tail _ (by assumption)) | exact .tail _ (.tail _ (.tail _ (by assumption)))); (case i => assumption); (case b => assumption); (case d => with_unfolding_all rfl); (case e => (intro _; with_unfolding_all rfl))); intro tS))
local macro_rules | `(tactic| walk_at "subscriptTail") => `(tactic| (k_here; (with_reducible show wpAny _ _ (subscriptTail _ _ (Value.ref _) (Value.int 0 _)) _ _ _); (refine' PySem.W.ksa_sub ?N ?m ?i (by decide) ?b (by decide) ?_ ?d; (case N => k_asm); (case m => first | assumption | exact .tail _ (by assumption) | exact .tail _ (.tail _ (by assumption)) | exact .tail _ (.tail _ (.tail _ (by assumption)))); (case i => assumption); (case b => assumption); (case d => with_unfolding_all rfl)); intro tS))


theorem DueIs.mono {l l' : List (Addr × Obj)} {v : Value} : ∀ {o : Option (List Int)}, DueIs l v o → (∀ p ∈ l, p ∈ l') → DueIs l' v o
  | none, h, _ => h
  | some _, h, k => TupI.mono h k
theorem lastOf_getD : ∀ {s : Int} {r : List Int}, (s :: r).getD (-1 + ((s :: r).length : Int)).toNat 0 = lastOf s r
  | _, [] => rfl
  | s, x :: r => by
    have e := lastOf_getD (s := x) (r := r)
    rw [lastOf, ← e]
    have h1 : (-1 + ((s :: x :: r).length : Int)).toNat = (-1 + ((x :: r).length : Int)).toNat + 1 := by simp only [List.length_cons]; omega
    rw [h1]
    rfl
theorem pairs_two : ∀ (sg : List Int), ∀ w ∈ pairs sg, w.length ≤ 1 + 1 ∧ w ≠ []
  | [], _, h => by cases h
  | [_], _, h => by cases h
  | a :: b :: r, w, h => by
    rcases List.mem_cons.mp h with rfl | h
    · exact ⟨Nat.le_refl _, List.cons_ne_nil _ _⟩
    · exact pairs_two (b :: r) w h

set_option maxHeartbeats 8000000 in
theorem law_loop2 {w : World} {h₀ : Heap} {L fa wc : Addr} {m mg mb : Str → Option Value} {mean : ExcName → Option Value} {base : List (Addr × Obj)} {s : Shared} {Q : Flow → Shared → Prop}
  (K0 : Below callerA h₀ [] h₀) (KX : (hd.heap_39 w.params).In h₀) (TT : Top hd.view_39 LO mean mg mb h₀)
  {xS dS aG aC aW : Addr} {es : List DictEntry} {full : Int} {gv cv wv : List Value} {cg cc cw : Nat} {sg : List Int} {oc : Obj}
  (S : LSt h₀ L s.heap m base xS dS es full aG gv cg sg aC cv cc oc)
  (mW : (aW, listOf wv.toArray cw) ∈ base) (hW : WordsAre base wv ((pairs sg).take (full - 6).toNat)) (n3 : m (Str.ofString "words") = some (.ref aW))
  (next : ∀ m' h' tk, LSt h₀ L h' m' base xS dS es full aG gv cg sg aC cv cc oc → m' (Str.ofString "words") = some (.ref aW) →
    wpAny (model PySem.Challenge.rw_og0129_01.row.prog w) (callerA.deeper (lawEnv L fa (.ref wc))) (execs (lawStmts 7) (lawEnv L fa (.ref wc))) Q (fun _ _ => False) { s with heap := h', toks := tk }) :
  wpAny (model PySem.Challenge.rw_og0129_01.row.prog w) (callerA.deeper (lawEnv L fa (.ref wc))) (execs (lawStmts 6) (lawEnv L fa (.ref wc))) Q (fun _ _ => False) s := by
  obtain ⟨F, N, SZ, hfull, mG, iG, len1, len7, sgb, mC, iC, mCell, dCell, n1, n2⟩ := S
  rw [pin3 n1 n2 n3] at F
  obtain ⟨s1, s2, ⟨t1, s3⟩, ⟨t2, s4⟩, ⟨t3, s5⟩, ⟨t4, s6⟩⟩ := id SZ
  unfold lawEnv
  conv in (lawStmts 6) => whnf
  conv in (occs := *) lawScope => all_goals whnf
  revert KX
  w_top off
  k_fill
  intro KX
  repeat' (first | (k_unfold; (try dsimp only)) | ((fail_if_success (with_reducible show wpAny _ _ (exec (PySem.Stmt.For _ _ _ _ _) _) _ _ _)); walk1; (try dsimp only)) | fail "no step")
  refine For_invV h₀ rfl rfl ?_ (by intro _; with_unfolding_all rfl) (by passes_own)
  repeat' (first | (k_unfold; (try dsimp only)) | ((fail_if_success (with_reducible show wpAny _ _ (pyIter _) _ _ _)); walk1; (try dsimp only)) | fail "no step")
  rename_i nF nN hI _
  obtain ⟨s0, r, rfl⟩ := List.exists_cons_of_ne_nil (l := sg) (by intro q; rw [q] at len1; simp at len1)
  obtain ⟨k, hk, hkn⟩ : ∃ k : Nat, full = 6 + (k : Int) ∧ (full - 6).toNat = k := ⟨(full - 6).toNat, by rcases hfull with rfl | rfl <;> decide, rfl⟩
  rw [hkn] at hW
  have hwl : ((pairs (s0 :: r)).take k).length ≤ 6 := by
    rw [List.length_take, pairs_len]; omega
  have hlast : (s0 :: r).getD (-1 + ((s0 :: r).length : Int)).toNat 0 = lastOf s0 r := lastOf_getD
  have hwil : ∀ w ∈ (pairs (s0 :: r)).take k, w.length ≤ 1 + 1 ∧ w ≠ [] := fun w hw => pairs_two _ w (List.mem_of_mem_take hw)
  have hcodes : ∀ c ∈ [0, 1, 2, 3] ++ rangeKs 6 (full - 6).toNat, (0 ≤ c ∧ c < 100) ∧ c ≠ 4 ∧ c ≠ 5 := by
    rcases hfull with rfl | rfl <;> decide
  refine iterK_list (fun _ m => m (Str.ofString "codes") = some (.ref aC) ∧ m (Str.ofString "sizes") = some (.ref xS) ∧ m (Str.ofString "words") = some (.ref aW)) rfl (.head _) nF nN ⟨rfl, rfl, rfl⟩ ?turn ?done
  case done =>
    rintro m₁ h1 tk1 ⟨e1, e2, e3⟩ F1 N1
    dsimp only
    have NB : News h₀ L h1 base := News.sub' N1 (fun p hp => .tail _ (.tail _ (.tail _ hp)))
    exact next m₁ h1 tk1 ⟨F1, NB, SZ, hfull, mG, iG, len1, len7, sgb, mC, iC, mCell, dCell, e1, e2⟩ e3
  case turn =>
    rintro i v m₁ h1 tk1 I oI hi hv ⟨e1, e2, e3⟩ F1 N1
    obtain ⟨c, ct, rfl, hci⟩ := hI.at i v hv
    obtain ⟨⟨hc0, hc1⟩, h4, h5⟩ := hcodes c (List.mem_of_getElem? hci)
    obtain ⟨b2, N2, up2, back⟩ := newsGen (R := fun b => ∀ p ∈ base, p ∈ b) N1 (fun p hp => .tail _ (.tail _ (.tail _ (.tail _ hp))))
    refine loop2_due K0 KX TT N2 (SZ.mono up2) (up2 _ mW) (hW.mono up2) hwl (up2 _ mG) iG len1 len7 sgb (up2 _ mC) iC (up2 _ mCell) dCell hlast hc0 hc1 h4 h5 e1 e2 e3 F1 ?_
    intro m2 b3 h3 tk3 dv F3 N3 up3 f1 f2 f3 f4 f5 hdv
    have u3 : ∀ p ∈ base, p ∈ b3 := fun p hp => up3 p (up2 p hp)
    refine loop2_answer K0 KX TT N3 (SZ.mono u3) (u3 _ mW) (hW.mono u3) hwl (u3 _ mG) iG len1 len7 sgb (u3 _ mC) iC (u3 _ mCell) dCell hlast hc0 hc1 h4 h5 f1 f2 f3 f4 f5 F3 ?_
    intro m3 b4 h6 tk4 av F4 N4 up4 g1 g2 g3 g4 g5 g6 hav
    have u4 : ∀ p ∈ base, p ∈ b4 := fun p hp => up4 p (u3 p hp)
    rw [law_p1 hk sgb h4 h5] at hav
    have hds : ∀ ds, wordOf full ((pairs (s0 :: r)).take k) c [lastOf s0 r] = some ds → ds ≠ [] ∧ ds.length ≤ 10 := fun ds hd => by
      have := wordOf_len (i := 1) hd (by simp) hwil
      exact ⟨this.2, by omega⟩
    refine loop2_eq K0 KX TT N4 (SZ.mono u4) (u4 _ mW) (hW.mono u4) hwl (u4 _ mG) iG len1 len7 sgb (u4 _ mC) iC (u4 _ mCell) dCell hlast hc0 hc1 h4 h5 g1 g2 g3 g4 g5 g6 (hdv.mono up4) hav (fun ds hd => (hds ds hd).2) F4 ?_
    intro m4 b5 h7 tk5 F5 N5 up5 i1 i2 i3 i4 i5
    have u5 : ∀ p ∈ base, p ∈ b5 := fun p hp => up5 p (u4 p hp)
    refine loop2_last K0 KX TT N5 (SZ.mono u5) (u5 _ mW) (hW.mono u5) hwl (u5 _ mG) iG len1 len7 sgb (u5 _ mC) iC (u5 _ mCell) dCell hlast hc0 hc1 h4 h5 i1 i2 i3 i4 i5 hfull ((hdv.mono up4).mono up5) hds (fun ds hd hl => law_p2 hk sgb h4 h5 hd (by omega)) (fun ds hd hce => law_p3 hd hce) F5 ?_
    intro m' h' tk F' N' j1 j2 j3
    exact ⟨h', tk, m', rfl, F', back _ (News.sub' N' (fun p hp => up5 p (up4 p (up3 p hp)))), j1, j2, j3⟩
end Mine

namespace Mine
local macro_rules | `(tactic| k_mem) => `(tactic| assumption)
local macro_rules | `(tactic| k_get) => `(tactic| assumption)
local macro_rules | `(tactic| walk_at "call builtin:len") => `(tactic| (k_here; (with_reducible show wpAny _ _ (call (Value.builtin "len") [Value.ref _]) _ _ _); (refine' len_list (News.isList ?N ?m) ?f ?_); (case N => k_asm); (case m => first | k_mem | exact .tail _ (by assumption)); (case f => (rw [List.size_toArray]; omega)); k_whole; (try simp only [List.size_toArray])))
local macro_rules | `(tactic| walk_at "subscriptTail") => `(tactic| (k_here; (with_reducible show wpAny _ _ (subscriptTail _ _ (Value.ref _) (Value.int (-1) _)) _ _ _); (refine' item_list_ints_neg (News.isList ?N ?m) ?i (by decide) ?b (by decide) ?_ ?d ?e; (case N => k_asm); (case m => first | assumption | exact .tail _ (by assumption) | exact .tail _ (.tail _ (by assumption)) | exact .tail _ (.tail _ (.tail _ (by assumption)))); (case i => assumption); (case b => assumption); (case d => with_unfolding_all rfl); (case e => (intro _; with_unfolding_all rfl))); intro tS))
local macro_rules | `(tactic| walk_at "subscriptTail") => `(tactic| (k_here; (with_reducible show wpAny _ _ (subscriptTail _ _ (Value.ref _) (Value.int 0 _)) _ _ _); (refine' PySem.W.ksa_sub ?N ?m ?i (by decide) ?b (by decide) ?_ ?d; (case N => k_asm); (case m => first | assumption | exact .tail _ (by assumption) | exact .tail _ (.tail _ (by assumption)) | exact .tail _ (.tail _ (.tail _ (by assumption)))); (case i => assumption); (case b => assumption); (case d => with_unfolding_all rfl)); intro tS))


set_option maxHeartbeats 8000000 in
theorem law_end {w : World} {h₀ : Heap} {L fa wc : Addr} {m mg mb : Str → Option Value} {mean : ExcName → Option Value} {base : List (Addr × Obj)} {s : Shared} {Q : Flow → Shared → Prop}
  (K0 : Below callerA h₀ [] h₀) (KX : (hd.heap_39 w.params).In h₀) (TT : Top hd.view_39 LO mean mg mb h₀)
  {xS dS aG aC : Addr} {es : List DictEntry} {full : Int} {gv cv : List Value} {cg cc : Nat} {sg : List Int} {oc : Obj}
  (S : LSt h₀ L s.heap m base xS dS es full aG gv cg sg aC cv cc oc)
  (hQ : ∀ m' h' tk, Fr h₀ L h' m' → Q (.ret (.bool true)) { s with heap := h', toks := tk }) :
  wpAny (model PySem.Challenge.rw_og0129_01.row.prog w) (callerA.deeper (lawEnv L fa (.ref wc))) (execs (lawStmts 7) (lawEnv L fa (.ref wc))) Q (fun _ _ => False) s := by
  obtain ⟨F, N, SZ, hfull, mG, iG, len1, len7, sgb, mC, iC, mCell, dCell, n1, n2⟩ := S
  rw [pin2 n1 n2] at F
  obtain ⟨s1, s2, ⟨t1, s3⟩, ⟨t2, s4⟩, ⟨t3, s5⟩, ⟨t4, s6⟩⟩ := id SZ
  obtain ⟨s0, r, rfl⟩ := List.exists_cons_of_ne_nil (l := sg) (by intro q; rw [q] at len1; simp at len1)
  obtain ⟨k, hk⟩ : ∃ k : Nat, full = 6 + (k : Int) := ⟨(full - 6).toNat, by rcases hfull with rfl | rfl <;> decide⟩
  have hgv := iG.length
  have hcv := iC.length
  unfold lawEnv
  conv in (lawStmts 7) => whnf
  conv in (occs := *) lawScope => all_goals whnf
  revert KX
  w_top off
  k_fill
  intro KX
  repeat' (first | (k_unfold; (try dsimp only)) | ((fail_if_success (with_reducible show wpAny _ _ (call (Value.ref 111) _) _ _ _)); (fail_if_success (with_reducible show wpAny _ _ (call (Value.ref 97) _) _ _ _)); (fail_if_success (with_reducible show wpAny _ _ (compareOp CmpOp.NotEq _ _) _ _ _)); (fail_if_success (with_reducible show wpAny _ _ (compareOp CmpOp.Eq _ _) _ _ _)); walk1; (try dsimp only)) | fail "no step")
  (with_reducible rename Fr h₀ L _ _ => FF)
  (with_reducible rename News h₀ L _ _ => NN)
  refine packed_call K0 FF KX NN TT (Around.frames_deeper K0.stack) rfl rfl (by rw [depth_deeper]; decide) rfl (by simp only [units_deeper]; decide) SZ mG iG (by omega) ?_
  intro aP pv cP h7 tk7 made F7 N7 hpm hpi
  clear FF NN
  obtain ⟨b2, N8, ⟨up2, mP⟩, _⟩ := newsGen (R := fun b => (∀ p ∈ base, p ∈ b) ∧ (aP, listOf pv.toArray cP) ∈ b) N7 ⟨fun p hp => List.mem_append_right _ hp, hpm⟩
  clear N7 hpm
  repeat' (first | (k_unfold; (try dsimp only)) | ((fail_if_success (with_reducible show wpAny _ _ (call (Value.ref 111) _) _ _ _)); (fail_if_success (with_reducible show wpAny _ _ (call (Value.ref 97) _) _ _ _)); (fail_if_success (with_reducible show wpAny _ _ (compareOp CmpOp.NotEq _ _) _ _ _)); (fail_if_success (with_reducible show wpAny _ _ (compareOp CmpOp.Eq _ _) _ _ _)); walk1; (try dsimp only)) | fail "no step")
  have rt := round_trip (full := full) (by rcases hfull with rfl | rfl <;> decide) sgb
  have pl := pack_len (full := full) (s0 :: r) [4] [] 6 (-1)
  refine unpacked_call K0 F7 KX N8 TT (Around.frames_deeper K0.stack) rfl rfl (by rw [depth_deeper]; decide) rfl (SZ.mono up2) mP hpi (by simp only [List.length_cons, List.length_nil] at pl len7; omega) ?small ?a ?b
  case small =>
    intro x hx
    have := pack_small (full := full) (s0 :: r) [4] [] 6 (-1) (by rcases hfull with rfl | rfl <;> decide) (by rcases hfull with rfl | rfl <;> decide) (by rcases hfull with rfl | rfl <;> decide) (by decide) (fun x hx => by rw [List.mem_singleton.mp hx]; decide) (fun k e he => by cases he) (fun x hx => by have := sgb x hx; omega) x hx
    omega
  case b =>
    intro e g h7 tk7 hno Fg sm R
    exfalso
    rw [rt] at hno
    cases hno
  case a =>
    intro aR rv cR rr h9 tk9 made2 hun F9 N9 hrm hri hrl
    rw [rt] at hun
    cases hun
    clear F7 N8
    obtain ⟨b3, N10, ⟨up3, mR⟩, _⟩ := newsGen (R := fun b => (∀ p ∈ base, p ∈ b) ∧ (aR, listOf rv.toArray cR) ∈ b) N9 ⟨fun p hp => List.mem_append_right _ (up2 p hp), hrm⟩
    clear N9 hrm
    have mCell3 := up3 _ mCell
    have s13 := up3 _ s1
    have s23 := up3 _ s2
    have mC3 := up3 _ mC
    have mG3 := up3 _ mG
    repeat' (first | (k_unfold; (try dsimp only)) | ((fail_if_success (with_reducible show wpAny _ _ (call (Value.ref 111) _) _ _ _)); (fail_if_success (with_reducible show wpAny _ _ (call (Value.ref 97) _) _ _ _)); (fail_if_success (with_reducible show wpAny _ _ (compareOp CmpOp.NotEq _ _) _ _ _)); (fail_if_success (with_reducible show wpAny _ _ (compareOp CmpOp.Eq _ _) _ _ _)); walk1; (try dsimp only)) | fail "no step")
    refine ke_ne_ints (News.isList N10 mR) (News.isList N10 mG3) hri iG (by simp only [units_deeper]; decide) ?_
    rw [decide_eq_true rfl]
    repeat' (first | (k_unfold; (try dsimp only)) | ((fail_if_success (with_reducible show wpAny _ _ (call (Value.ref 111) _) _ _ _)); (fail_if_success (with_reducible show wpAny _ _ (call (Value.ref 97) _) _ _ _)); (fail_if_success (with_reducible show wpAny _ _ (compareOp CmpOp.NotEq _ _) _ _ _)); (fail_if_success (with_reducible show wpAny _ _ (compareOp CmpOp.Eq _ _) _ _ _)); walk1; (try dsimp only)) | fail "no step")
    (with_reducible rename Fr h₀ L _ _ => F11)
    (with_reducible rename News h₀ L _ _ => N11)
    refine unpacked_call (ns := [5]) K0 F11 KX N11 TT (Around.frames_deeper K0.stack) rfl rfl (by rw [depth_deeper]; decide) rfl (SZ.mono fun p hp => .tail _ (up3 p hp)) (.head _) (.cons _ _ .nil) (by decide) (fun x hx => by rw [List.mem_singleton.mp hx]; decide) ?a2 ?b2
    case b2 =>
      intro e g h7 tk7 hno Fg sm R
      exfalso
      rw [unpk_end] at hno
      cases hno
    case a2 =>
      intro aR2 rv2 cR2 rr2 h12 tk12 made3 hun2 F12 N12 hrm2 hri2 hrl2
      rw [unpk_end] at hun2
      cases hun2
      clear F11 N11
      obtain ⟨b4, N13, ⟨up4, mR2⟩, _⟩ := newsGen (R := fun b => (∀ p ∈ base, p ∈ b) ∧ (aR2, listOf rv2.toArray cR2) ∈ b) N12 ⟨fun p hp => List.mem_append_right _ (.tail _ (up3 p hp)), hrm2⟩
      clear N12 hrm2
      have mCell4 := up4 _ mCell
      have s14 := up4 _ s1
      have s24 := up4 _ s2
      have mC4 := up4 _ mC
      have mG4 := up4 _ mG
      repeat' (first | (k_unfold; (try dsimp only)) | ((fail_if_success (with_reducible show wpAny _ _ (call (Value.ref 111) _) _ _ _)); (fail_if_success (with_reducible show wpAny _ _ (call (Value.ref 97) _) _ _ _)); (fail_if_success (with_reducible show wpAny _ _ (compareOp CmpOp.NotEq _ _) _ _ _)); (fail_if_success (with_reducible show wpAny _ _ (compareOp CmpOp.Eq _ _) _ _ _)); walk1; (try dsimp only)) | fail "no step")
      (with_reducible rename News h₀ L _ _ => N14)
      refine ke_eq_ints (ns := []) (ys := []) (News.isList N14 (.tail _ mR2)) (News.isList N14 (.head _)) hri2 .nil (by simp only [units_deeper]; decide) ?_
      rw [decide_eq_true rfl]
      have N15 : News h₀ L _ b4 := News.sub' N14 (fun p hp => .tail _ hp)
      clear N14
      repeat' (first | (k_unfold; (try dsimp only)) | ((fail_if_success (with_reducible show wpAny _ _ (call (Value.ref 111) _) _ _ _)); (fail_if_success (with_reducible show wpAny _ _ (call (Value.ref 97) _) _ _ _)); (fail_if_success (with_reducible show wpAny _ _ (compareOp CmpOp.NotEq _ _) _ _ _)); (fail_if_success (with_reducible show wpAny _ _ (compareOp CmpOp.Eq _ _) _ _ _)); walk1; (try dsimp only)) | fail "no step")
      (with_reducible rename Fr h₀ L _ _ => F16)
      (with_reducible rename News h₀ L _ _ => N16)
      (with_reducible rename IntsAre _ (_ ++ _ ++ _) => hI16)
      have up5 : ∀ (x y z : Addr × Obj), ∀ p ∈ base, p ∈ x :: y :: z :: b4 := fun _ _ _ p hp => .tail _ (.tail _ (.tail _ (up4 p hp)))
      have e16 : (4 :: s0 :: r ++ [4] ++ s0 :: r) = 4 :: ((s0 :: r) ++ 4 :: (s0 :: r)) := by simp
      rw [e16] at hI16
      have two := law_two hk sgb
      refine unpacked_call K0 F16 KX N16 TT (Around.frames_deeper K0.stack) rfl rfl (by rw [depth_deeper]; decide) rfl (SZ.mono (up5 _ _ _)) (.head _) hI16 (by simp only [List.length_append, List.length_cons] at len7 ⊢; omega) ?small3 ?a3 ?b3
      case small3 =>
        intro x hx
        rcases List.mem_cons.mp hx with rfl | hx
        · decide
        · rcases List.mem_append.mp hx with hx | hx
          · have := (sgb x hx).2; omega
          · rcases List.mem_cons.mp hx with rfl | hx
            · decide
            · have := (sgb x hx).2; omega
      case b3 =>
        intro e g h7 tk7 hno Fg sm R
        exfalso
        rw [two] at hno
        cases hno
      case a3 =>
        intro aR3 rv3 cR3 rr3 h17 tk17 made4 hun3 F17 N17 hrm3 hri3 hrl3
        rw [two] at hun3
        cases hun3
        clear F16 N16
        obtain ⟨b5, N18, ⟨up6, mR3⟩, _⟩ := newsGen (R := fun b => (∀ p ∈ base, p ∈ b) ∧ (aR3, listOf rv3.toArray cR3) ∈ b) N17 ⟨fun p hp => List.mem_append_right _ (up5 _ _ _ p hp), hrm3⟩
        clear N17 hrm3
        have mCell5 := up6 _ mCell
        have mG5 := up6 _ mG
        repeat' (first | (k_unfold; (try dsimp only)) | ((fail_if_success (with_reducible show wpAny _ _ (call (Value.ref 111) _) _ _ _)); (fail_if_success (with_reducible show wpAny _ _ (call (Value.ref 97) _) _ _ _)); (fail_if_success (with_reducible show wpAny _ _ (compareOp CmpOp.NotEq _ _) _ _ _)); (fail_if_success (with_reducible show wpAny _ _ (compareOp CmpOp.Eq _ _) _ _ _)); walk1; (try dsimp only)) | fail "no step")
        (with_reducible rename Fr h₀ L _ _ => F19)
        (with_reducible rename News h₀ L _ _ => N19)
        (with_reducible rename IntsAre _ (_ ++ _) => hI19)
        refine ke_eq_ints (News.isList N19 (.tail _ mR3)) (News.isList N19 (.head _)) hri3 hI19 (by simp only [units_deeper]; decide) ?_
        rw [decide_eq_true rfl]
        exact hQ _ _ _ F19
end Mine

namespace Mine
local macro_rules | `(tactic| k_mem) => `(tactic| assumption)
section
variable {h₀ h : Heap} {L : Addr} {p0 p1 p2 p3 p4 p5 p6 p7 p8 p9 p10 : Addr × Obj} {r : List (Addr × Obj)}
theorem N_at4 (_ : News h₀ L h (p0 :: p1 :: p2 :: p3 :: p4 :: p5 :: r)) : p4 ∈ p0 :: p1 :: p2 :: p3 :: p4 :: p5 :: r := .tail _ (.tail _ (.tail _ (.tail _ (.head _))))
theorem N_at5 (_ : News h₀ L h (p0 :: p1 :: p2 :: p3 :: p4 :: p5 :: r)) : p5 ∈ p0 :: p1 :: p2 :: p3 :: p4 :: p5 :: r := .tail _ (.tail _ (.tail _ (.tail _ (.tail _ (.head _)))))
theorem N_at10 (_ : News h₀ L h (p0 :: p1 :: p2 :: p3 :: p4 :: p5 :: p6 :: p7 :: p8 :: p9 :: p10 :: r)) : p10 ∈ p0 :: p1 :: p2 :: p3 :: p4 :: p5 :: p6 :: p7 :: p8 :: p9 :: p10 :: r := .tail _ (.tail _ (.tail _ (.tail _ (.tail _ (.tail _ (.tail _ (.tail _ (.tail _ (.tail _ (.head _))))))))))
end
set_option maxHeartbeats 8000000 in
theorem law_ : PySem.Challenge.rw_og0129_01.Holds := hd (by
  k_go0; (all_goals try k_fold)
  (with_reducible rename Below _ _ _ _ => K0)
  (with_reducible rename Frag.In _ _ => KX)
  (with_reducible rename Top _ _ _ _ _ _ => TT)
  repeat' (first | (k_unfold; (try dsimp only)) | ((fail_if_success (with_reducible show wpAny _ _ (call (Value.ref 118) _) _ _ _)); walk1; (try dsimp only)) | fail "no step")
  (with_reducible rename Fr _ _ _ _ => F1)
  (with_reducible rename News _ _ _ _ => N1)
  (with_reducible rename IntsAre _ (_ ++ _) => hCells)
  (with_reducible rename ¬ _ < _ => hLen)
  refine draw_call K0 F1 KX N1 TT (Around.frames_deeper K0.stack) rfl rfl (by rw [depth_deeper]; decide) rfl (fun z hz => Nat.ne_of_lt (allLt_mem (by simp only [AllLt, and_true]; assumption) z hz)) (.head _) hCells (by simp only [List.length_append, List.length_map, List.length_take, List.length_cons, List.length_nil]; omega) (by simp only [List.length_append, List.length_cons, List.length_nil]; omega) (by decide) (by decide) (by decide) (by decide) (by decide) ?_
  intro d1 td1 p1 q1 tp1 tq1 h1 tk1 hd10 hd12 hp10 hp11 hq10 F2 N2
  clear N1 F1
  repeat' (first | (k_unfold; (try dsimp only)) | ((fail_if_success (with_reducible show wpAny _ _ (call (Value.ref 118) _) _ _ _)); walk1; (try dsimp only)) | fail "no step")
  (with_reducible rename Fr TT.heap _ _ _ => F3)
  (with_reducible rename News TT.heap _ _ _ => N3)
  rename @LT.lt Nat _ _ _ => l2
  have N4 := News.sub' N3 re_pull2
  have off4 := off_pull2 N3 (Nat.lt_trans (And.left (by assumption)) l2) (And.left (by assumption)) (fun q hq => allLt_mem (by simp only [AllLt, and_true]; assumption) q hq)
  clear N3
  refine draw_call K0 F3 KX N4 TT (Around.frames_deeper K0.stack) rfl rfl (by rw [depth_deeper]; decide) rfl off4 (.tail _ (.tail _ (.head _))) hCells (by simp only [List.length_append, List.length_map, List.length_take, List.length_cons, List.length_nil]; omega) (by simp only [List.length_append, List.length_cons, List.length_nil]; omega) hp10 (by omega) hq10 (by decide) (by decide) ?_
  intro d2 td2 p2 q2 tp2 tq2 h2 tk2 hd20 hd22 hp20 hp21 hq20 F5 N5
  clear F3 N4
  repeat' (first | (k_unfold; (try dsimp only)) | ((fail_if_success (with_reducible show LCg.CompSrc _ _ _ _ _ _ _ _ _ _ _ _ _ _)); walk1; (try dsimp only)) | fail "no step")
  (with_reducible rename IsRange _ _ _ _ _ _ _ _ => hR)
  (with_reducible rename Fr TT.heap _ _ _ => F6)
  (with_reducible rename News TT.heap _ _ _ => N6)
  refine LCg.CompSrc.range (n := (1 + d2).toNat) rfl F6 N6 hR (small7 hd20 hd22) (rsize7 hd20 hd22) (by rw [sizeLine_eq]; omega) fun g => ?_
  refine compRest_ind (SgJ _ _ _) ?_ ?_ _ 0 [] _ (Nat.zero_add _) ⟨p2, q2, tp2, tq2, [], rfl, .nil, rfl, (fun _ h => nomatch h), hp20, by omega, hq20⟩
  · rintro i ys nw v I oI C oC D m₂ h tk E' hin ⟨p, q, tp, tq, sg, rfl, hys, hsl, hsb, hp0, hpi, hq0⟩ ⟨tv, rfl⟩ hNs hmx F7 N7 off7 ne7
    clear F6 N6
    repeat' (first | (k_unfold; (try dsimp only)) | ((fail_if_success (with_reducible show wpAny _ _ (call (Value.ref 118) _) _ _ _)); walk1; (try dsimp only)) | fail "no step")
    (with_reducible rename Fr TT.heap _ _ _ => F8)
    (with_reducible rename News TT.heap _ _ _ => N8)
    have off8 := off7.1
    refine draw_call K0 F8 KX (News.sub' N8 re_pull3) TT (Around.frames_deeper K0.stack) rfl rfl (by rw [depth_deeper]; decide) rfl (fun z hz => ?_) (.tail _ (.tail _ (.tail _ (.tail _ (.tail _ (.head _)))))) hCells (by simp only [List.length_append, List.length_map, List.length_take, List.length_cons, List.length_nil]; omega) (by simp only [List.length_append, List.length_cons, List.length_nil]; omega) hp0 (by omega) hq0 (by decide) (by decide) ?_
    · rcases List.mem_cons.mp hz with rfl | hz
      · exact off8.1.symm
      · rcases List.mem_cons.mp hz with rfl | hz
        · exact off8.2.1.symm
        · rcases List.mem_cons.mp hz with rfl | hz
          · exact off8.2.2.symm
          · exact off4 z hz
    · intro d td p' q' tp' tq' h9 tk9 hd0 hd4 hp'0 hp'1 hq'0 F9 N9
      exact LCg.CompEnd.intro F9 N9 _ re_push3 off7 trivial ⟨p', q', tp', tq', sg ++ [d], rfl, hys.append (.cons _ _ .nil), by rw [List.length_append, hsl]; rfl, fun s hs => by
        rcases List.mem_append.mp hs with hs | hs
        · exact hsb s hs
        · rw [List.mem_singleton.mp hs]; exact ⟨hd0, hd4⟩, hp'0, by omega, hq'0⟩
  · rintro ys nw ⟨p, q, tp, tq, sg, rfl, hys, hsl, hsb, hp0, hpi, hq0⟩
    intro aG h9 tk9 F9 N9 o9
    clear F6 N6
    simp only [LCg.Off1, and_true] at o9
    repeat' (first | (k_unfold; (try dsimp only)) | ((fail_if_success (with_reducible show wpAny _ _ (execs (PySem.Stmt.Assign _ (PySem.Expr.Subscript (PySem.Expr.ListComp _ _ _ _) _ _) _ :: _) _) _ _ _)); walk1; (try dsimp only)) | fail "no step")
    (with_reducible rename Fr TT.heap _ _ _ => F10)
    (with_reducible rename News TT.heap _ _ _ => N10)
    (with_reducible rename IntsAre _ (_ ++ sg) => hC10)
    rw [show (1 * 2 ^ Int.toNat 2 : Int) = 4 by decide] at hC10
    obtain ⟨es, full, hfull, SZ⟩ := sizesAt_made hd10 hd12 (N_at4 N10) (N_at5 N10)
    have hlen1 : 1 ≤ sg.length := by rw [hsl]; omega
    have hlen7 : sg.length ≤ 7 := by rw [hsl]; omega
    refine wpAny_mono (law_words K0 KX TT (full := full) (es := es) (gv := ys) (cg := ys.length) (sg := sg) ⟨F10, N10, SZ, hfull, .tail _ (.tail _ (.head _)), hys, hlen1, hlen7, hsb, .head _, hC10, N_at10 N10, by assumption, rfl, rfl⟩
      (fun m' base' h' tk aW wv cw S1 mW hW n3 => law_loop1 K0 KX TT S1 mW hW (by rw [List.length_take, pairs_len]; omega) n3 (fun m2 h2 tk2 S2 n3' => law_loop2 K0 KX TT S2 mW hW n3' (fun m3 h3 tk3 S3 n3'' => law_end K0 KX TT S3 (fun m4 h4 tk4 F4 => ?close))))) (fun _ _ h => h) (fun _ _ h => h.elim)
    k_end
    wrow_close)
end Mine

theorem PySem.Challenge.cw_og0129_01_holds : PySem.Challenge.rw_og0129_01.Holds := by
  exact Mine.law_
