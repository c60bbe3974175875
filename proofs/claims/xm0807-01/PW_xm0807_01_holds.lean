import PyProof.Rows.All
import Wide.All
import OpenK.AllK
import Wide.FinOn
import PySem.Challenge.RW_xm0807_01
open PySem PySem.W PyProof.Rows
set_option Elab.async false
set_option maxRecDepth 100000
set_option maxHeartbeats 8000000
set_option linter.unusedVariables false
namespace Mine
open_top hd for PySem.Challenge.rw_xm0807_01
theorem calm : True := by
  w_top off
  k_with_none
  exact True.intro
end Mine
open PySem.Calls Builtin Builtin.ObjectAttr
-- Take1
namespace Mine
theorem fm {z m : Int} (h : 0 < m) : 0 ≤ z.fmod m ∧ z.fmod m < m := ⟨Int.fmod_nonneg_of_pos z h, Int.fmod_lt_of_pos z h⟩
theorem mul_sq (x z b : Int) : IntMulOk ([x, z.fmod 2147483647].getD (Int.toNat 1) 0) b := by
  have h := fm (z := z) (m := 2147483647) (by decide)
  refine IntMulOk.of_left (intBits_le_64 ?_ ?_)
  · show _ < z.fmod 2147483647; omega
  · show z.fmod 2147483647 < _; omega
section
local macro_rules | `(tactic| k_all) => `(tactic| with_reducible assumption)
local macro_rules | `(tactic| walk_at "binaryOp Mult int int") => `(tactic| (k_here; with_reducible refine PyProof.Rows.mul_int ?_ (mul_sq _ _ _)))
theorem take_ok {w : World} {mean : ExcName → Option Value} {mg mb : Str → Option Value} {dp un : Nat} {gd : Option (List Code)} {cn : Str} {cs : Scope} {a : Addr} {ccd : Value} {cl : List (Str × Addr)} {outer : List Env} {A₀ : Around} {base h₀ : Heap} {L : Addr} {m : Str → Option Value} {news : List (Addr × Obj)} {s : Shared}
    {src : Addr} {x y top : Int} {tx ty tt : Tok} {n : Nat} {Q E : Value → Shared → Prop}
    (B : Below A₀ base outer h₀) (F : Fr h₀ L s.heap m) (X : (hd.heap_39 w.params).In h₀) (N : News h₀ L s.heap ((src, listOf [.int x tx, .int y ty].toArray n) :: news))
    (T : Top hd.view_39 (looseW hd.view_39 []) mean mg mb h₀) (hk : cs.kind = .function) (hne : ∀ p ∈ news, p.1 ≠ src)
    (ht : 0 < top) (ht6 : top ≤ 64) (hdp : dp + 1 < recursionLimit)
    (hret : ∀ (r x' y' : Int) (t tx' ty' : Tok) (h' : Heap) (tk' : Nat), 0 ≤ r → r < top → Fr h₀ L h' m → News h₀ L h' ((src, listOf [.int x' tx', .int y' ty'].toArray n) :: news) → Q (.int r t) { s with heap := h', toks := tk' }) :
    wpAny (model PySem.Challenge.rw_xm0807_01.row.prog w) (ktrTop dp un gd cn cs L a ccd cl outer) (call (.ref 102) [.ref src, .int top tt]) Q E s := by

  refine wpAny_call ?_
  refine' code_def (binds := [(Str.ofString "source", .ref src), (Str.ofString "top", .int top tt)]) B F X N T rfl rfl hk ?k6 ?k7 ?k8 ?k9 ?kB ?_ ?c2 ?c3 ?c4 ?c5
  case k6 => k_is
  case k7 => k_is
  case k8 => ktr_room
  case k9 => exact BindsTo.of_eq rfl
  case c5 => decide
  case kB => exact locs rfl
  case c2 => exact rfl
  case c3 => exact rfl
  case c4 => exact rfl
  intro g' L' h' FG' F' N' B' X' T'
  (try dsimp only)
  (try k_lift B')
  (try k_fold)
  k_steps
  all_goals exact hret _ _ _ _ _ _ _ _ (fm ht).1 (fm ht).2 (by k_asm) (by k_asm)
end
end Mine
-- Exc1
namespace Mine
/-- a bound slot of an exception class -/
theorem bga_bind (self : Value) : bindSpecial (.builtin "BaseException.__getattribute__") self = pure (.builtin "BaseException.__getattribute__", [self]) :=
  (Slot.of (T := "Exception") (name := "__getattribute__") (owner := "BaseException") (n := "__getattribute__") (by rw [typeLookup_type, builtinLookup_eq_fast]; kernel_rfl) (by decide +kernel) (by decide +kernel) (by decide +kernel)
    (by first | exact .inl (by decide +kernel) | exact .inr (by decide +kernel)) (by rw [isSubtype_type]; kernel_rfl)).bind self
theorem bga_plain : plainId "BaseException.__getattribute__" = true := by decide +kernel
theorem bga_kind : builtinKind "BaseException.__getattribute__" = some .slot := by decide +kernel
theorem bga_split : splitId "BaseException.__getattribute__" = some ("BaseException", "__getattribute__") := by decide +kernel

section
variable {w : World} {A : Around} {E : Value → Shared → Prop} {s : Shared} {e d : Addr} {oe : Obj} {es : List DictEntry} {n : Nat} {v : Value} {expr : Bool} {Q : Value → Shared → Prop}
theorem msg_get (X : (hd.heap_39 w.params).In s.heap) (he : s.heap.get? e = some oe) (hc : oe.cls = .ref 44) (hno : notCls oe = true) (hdd : oe.dict = some d)
    (hd : s.heap.get? d = some (dictOf es n)) (hl : getL (Str.ofString "message") es = some (some v)) (hv : handedIn v = true) (h : Q v { s with toks := s.toks + 1 }) :
    wpAny (model PySem.Challenge.rw_xm0807_01.row.prog w) A (getAttr (.ref e) (Str.ofString "message") expr) Q E s := by

  have I : InstAt s.heap e oe 44 (some (dictOf es n)) := ⟨he, hc, hno, by rw [hdd]; exact hd⟩
  have G : findIn (Mine.hd.heap_39 w.params) (.ref 44) "__getattribute__" = some (some (.builtin "BaseException.__getattribute__")) := by k_is
  have G2 : findIn (Mine.hd.heap_39 w.params) (.ref 44) "__getattr__" = some none := by k_is
  have G3 : findIn (Mine.hd.heap_39 w.params) (.ref 44) (Str.ofString "message") = some none := by k_is
  have HD : hasDictIn (Mine.hd.heap_39 w.params) 44 = true := by k_is
  have GB : mroIn (Mine.hd.heap_39 w.params) 44 (.type "BaseException") = some true := by k_is
  have hf : findObj (Mine.hd.heap_39 w.params) 44 (some (dictOf es n)) (Str.ofString "message") = some (.value v) := findObj_own HD G3 (by k_is) hl
  have L0 := I.type (M := model PySem.Challenge.rw_xm0807_01.row.prog w)
  have L1 := looks_findIn (M := model PySem.Challenge.rw_xm0807_01.row.prog w) X G
  have L2 := looks_findIn (M := model PySem.Challenge.rw_xm0807_01.row.prog w) X G2
  have L3 := looks_find (M := model PySem.Challenge.rw_xm0807_01.row.prog w) X I hf
  have L4 : Looks (model PySem.Challenge.rw_xm0807_01.row.prog w) s.heap (isInstance (.ref e) (.type "BaseException")) true := L0.andThen (looks_mroIn X GB)
  obtain ⟨hh, g, dr, t, os⟩ := s
  unfold getAttr getAttrBy
  refine wpAny_bind (wpAny_mkText (wpAny_holding (wpAny_bind (L0.at (wpAny_bind (L1.at ?_))))))
  show wpAny _ _ (getAttrByItsOwn _ _ _ _ _ _) _ _ _
  unfold getAttrByItsOwn hookBefore callGetattribute boundAndCalled
  refine wpAny_bind (show wpAny _ _ (typeLookup (.ref 44) "__getattr__") _ _ _ from L2.at ?_)
  refine wpAny_bind (wpAny_attempt (wpAny_holding ?_))
  rw [if_neg (by cases expr <;> exact Bool.false_ne_true), bga_bind]
  refine wpAny_bind (wpAny_pure ?_)
  refine wpAny_call (codeAny_call_builtin bga_plain PySem.F.entry_bexc_ga (@check_slot (model PySem.Challenge.rw_xm0807_01.row.prog w) _ _ _ "BaseException.__getattribute__" "BaseException" "__getattribute__" (.ref e) [.str (Str.ofString "message") t] [] _ bga_kind bga_split L4 (PySem.F.args_bexc_ga _ _) ?_))
  refine wpAny_bind (wpAny_pure (wpAny_bind (wpAny_pure (wpAny_bind (L0.at (wpAny_bind (L3.at ?_)))))))
  refine wpAny_bind (wpAny_pure (wpAny_pure ?_))
  show wpAny _ _ (handedOut v) _ _ _
  rw [handedOut_of hv]
  exact wpAny_pure h
end
end Mine
-- Exc2
namespace Mine
theorem refuse_exc (self : Value) : refuseLoop self "__setattr__" [.ref 44, .ref 31, .type "Exception", .type "BaseException", .type "object"] = pure () := by
  rw [refuseLoop_ref, refuseLoop_ref]
  kernel_rfl
section
variable {w : World} {A : Around} {E : Value → Shared → Prop} {s : Shared} {e : Addr} {vs : Array Value} {sl : Array (Option Value)} {v : Value} {Q : Unit → Shared → Prop}
theorem msg_set (X : (hd.heap_39 w.params).In s.heap) (he : s.heap.get? e = some ⟨.ref 44, none, .fields vs, sl⟩)
    (h : ∀ d h' tk' tk, s.heap.get? d = none → d ≠ e → h'.get? e = some ⟨.ref 44, some d, .fields vs, sl⟩ → h'.get? d = some (dictOf [⟨PyData.keyHash w.params (Str.ofString "message"), .str (Str.ofString "message") tk, v⟩] 1) →
      (∀ b o, b ≠ e → s.heap.get? b = some o → h'.get? b = some o) → Q () { s with heap := h', toks := tk' }) :
    wpAny (model PySem.Challenge.rw_xm0807_01.row.prog w) A (setAttr (.ref e) (Str.ofString "message") v) Q E s := by

  have I : InstAt s.heap e ⟨.ref 44, none, .fields vs, sl⟩ 44 none := ⟨he, rfl, rfl, trivial⟩
  refine set_plain X I (by k_is) ?_
  have SF := PySem.F.store_object
  have L0 := I.type (M := model PySem.Challenge.rw_xm0807_01.row.prog w)
  have GB : mroIn (Mine.hd.heap_39 w.params) 44 (.type "object") = some true := by k_is
  have sub : Looks (model PySem.Challenge.rw_xm0807_01.row.prog w) s.heap (isInstance (.ref e) (.type "object")) true := L0.andThen (looks_mroIn X GB)
  have G3 : findIn (Mine.hd.heap_39 w.params) (.ref 44) (Str.ofString "message") = some none := by k_is
  have L3 := looks_findIn (M := model PySem.Challenge.rw_xm0807_01.row.prog w) X G3
  obtain ⟨cd, hc, hmro, hdict⟩ : ∃ cd, clsIn (Mine.hd.heap_39 w.params) 44 = some cd ∧ cd.mro = [.ref 44, .ref 31, .type "Exception", .type "BaseException", .type "object"] ∧ cd.hasDict = true := ⟨_, by k_is, rfl, rfl⟩
  have hm : Looks (model PySem.Challenge.rw_xm0807_01.row.prog w) s.heap (mroOf (.ref 44)) cd.mro := (looks_clsIn X hc).andThen .now
  have hcl := looks_clsIn (M := model PySem.Challenge.rw_xm0807_01.row.prog w) X hc
  refine codeAny_call_builtin SF.slot.plain SF.entry (@check_slot (model PySem.Challenge.rw_xm0807_01.row.prog w) _ _ _ "object.__setattr__" "object" "__setattr__" (.ref e) [.str (Str.ofString "message") s.toks, v] [] _ SF.kind SF.split (by exact sub) (SF.args _ _ _) ?_)
  rw [osa_eq, refuse_eq]
  refine wpAny_bind (wpAny_bind (L0.at (wpAny_bind (hm.at ?_))))
  rw [hmro, refuse_exc]
  refine wpAny_pure (wpAny_bind (L0.at (wpAny_bind (L3.at (wpAny_bind (wpAny_pure ?_))))))
  have he₁ := Heap.get?_push_of_some emptyDict he
  have hlt := Heap.lt_size he
  have hd₁ : (s.heap.push emptyDict).get? s.heap.objs.size = some emptyDict := Heap.get?_push_size _ rfl
  have he₂ : ((s.heap.push emptyDict).update e fun o => { o with dict := some s.heap.objs.size }).get? e = some ⟨.ref 44, some s.heap.objs.size, .fields vs, sl⟩ := Heap.get?_update_self _ he₁ rfl
  have hd₂ : ((s.heap.push emptyDict).update e fun o => { o with dict := some s.heap.objs.size }).get? s.heap.objs.size = some emptyDict := (Heap.get?_update_other _ _ (Nat.ne_of_lt hlt)).trans hd₁
  refine wpAny_bind (wpAny_pure (wpAny_bind (wpAny_bind (wpAny_loadPart he (wpAny_bind (hcl.at ?_))))))
  rw [hdict]
  refine wpAny_bind (wpAny_alloc (wpAny_bind (wpAny_update he₁ (wpAny_pure (wpAny_bind (wpAny_pure (wpAny_bind ?_)))))))
  unfold nsSet
  refine wpAny_bind (wpAny_bind (wpAny_askSetting (wpAny_pure (wpAny_bind (wpAny_mkText (wpAny_bind (wpAny_loadPart hd₂ ?_)))))))
  have hput : Obj.putName (Str.ofString "message") (PyData.keyHash w.params (Str.ofString "message")) (.str (Str.ofString "message") (s.toks + 1)) v emptyDict = dictOf [⟨PyData.keyHash w.params (Str.ofString "message"), .str (Str.ofString "message") (s.toks + 1), v⟩] 1 := by
    have z := putName_dict (Str.ofString "message") (PyData.keyHash w.params (Str.ofString "message")) (.str (Str.ofString "message") (s.toks + 1)) v [] 0
    exact z
  have hd₃ := Heap.get?_update_self (Obj.putName (Str.ofString "message") (PyData.keyHash w.params (Str.ofString "message")) (.str (Str.ofString "message") (s.toks + 1)) v) hd₂ (by rw [hput]; rfl)
  rw [hput] at hd₃
  have he₃ := (Heap.get?_update_other ((s.heap.push emptyDict).update e fun o => { o with dict := some s.heap.objs.size }) (Obj.putName (Str.ofString "message") (PyData.keyHash w.params (Str.ofString "message")) (.str (Str.ofString "message") (s.toks + 1)) v) (Ne.symm (Nat.ne_of_lt hlt))).trans he₂
  show wpAny _ _ (updatePart s.heap.objs.size _ (Obj.putName (Str.ofString "message") (PyData.keyHash w.params (Str.ofString "message")) (.str (Str.ofString "message") (s.toks + 1)) v)) _ _ _
  refine wpAny_updatePart hd₂ (wpAny_bind (wpAny_lookBehind hd₃ (pastItsLine_dict (by show 1 ≤ _; omega)) (wpAny_pure ?_)))
  refine h s.heap.objs.size _ _ (s.toks + 1) (Heap.get?_none_of_le (Nat.le_refl _)) (Ne.symm (Nat.ne_of_lt hlt)) he₃ hd₃ fun b o hb ho => ?_
  have hbl := Heap.lt_size ho
  rw [Heap.get?_update_other _ _ (Ne.symm (Nat.ne_of_lt hbl)), Heap.get?_update_other _ _ (Ne.symm hb)]
  exact Heap.get?_push_of_some _ ho
end
end Mine
-- Exc3
namespace Mine
abbrev segBm : List Value := [.ref 31, .type "Exception", .type "BaseException", .type "object"]
section
variable {w : World} {h : Heap}
theorem seg_cls (X : (hd.heap_39 w.params).In h) : ∃ nm q sn k0 k1 k2 k3 k5, h.get? 44 = some (excClassObj nm q 44 43 [.ref 31] segBm true sn [] false none none k0 k1 k2 k3 k5 "Exception.__new__") := by
  have hC := X 44 _ (by k_is)
  exact ⟨_, _, _, _, _, _, _, _, hC⟩
end
section
variable {prog : Program} {w : World} {A : Around} {E : Value → Shared → Prop} {h : Heap} {g : Array GenState} {d : Drawn} {t : Nat} {os : OsState}
variable {nm q : Str} {N : Addr} {bs : List Value} {hdct : Bool} {sn : List Str} {sub : List Value} {ab : Bool} {col : Option Bool} {dd : Option Addr} {k0 k1 k2 k3 k5 : Option Value}
theorem seg_check_new {M : Model} {rest : List Value} {Q : Unit → Shared → Prop} (hC : h.get? 44 = some (excClassObj nm q 44 N bs segBm hdct sn sub ab col dd k0 k1 k2 k3 k5 "Exception.__new__"))
    (hq : Q () ⟨h, g, d, t, os⟩) : wpAny M A (checkBuiltinCall "Exception.__new__" ⟨.ref 44 :: rest, []⟩) Q E ⟨h, g, d, t, os⟩ := by
  have F := PySem.F.excBase_Exception
  have hcont : (Value.ref 44 :: segBm).contains (.type "Exception") = true := by decide +kernel
  have hstar := F.noStar
  simp only [checkBuiltinCall, F.newKind, F.newSplit, F.newRow]
  repeat (first | refine wpAny_loadPart_at hC ?_ | (refine wpAny_isSubtype_exc hC ?_; rw [hcont]) | refine wpAny_staticBase_exc hC ?_ | refine wpAny_madeBy_exc hC ?_ | simp only [bne_self_eq_false, Bool.false_eq_true, if_false] | wp_step)
  exact hq
theorem seg_new {rest : List Value} {R : Result → Shared → Prop} (hC : h.get? 44 = some (excClassObj nm q 44 N bs segBm hdct sn sub ab col dd k0 k1 k2 k3 k5 "Exception.__new__"))
    (hq : R (.ok (.ret (.ref (h.objs.size + 1)))) ⟨(h.push { cls := .type "tuple", data := .seq rest.toArray }).push
      { cls := .ref 44, data := .fields #[.ref h.objs.size, .none, .none, .none, .bool false, .none] }, g, d, t, os⟩) (hrest : rest.length ≤ sizeLine := by size_fits) :
    codeAny (model prog w) A (.builtin "Exception.__new__" ⟨.ref 44 :: rest, []⟩) R ⟨h, g, d, t, os⟩ := by
  have F := PySem.F.excBase_Exception
  have hends := F.ends
  have hcB : (Value.ref 44 :: segBm).contains (.type "Exception") = true := by decide +kernel
  have hcA : (Value.ref 44 :: segBm).contains (.type "AttributeError") = false := by decide +kernel
  have hcN : (Value.ref 44 :: segBm).contains (.type "NameError") = false := by decide +kernel
  refine codeAny_builtinAt F.entry ?_
  unfold Builtin.«BaseException.__new__»
  refine PySem.wpAt_bind ?_
  show PySem.wpAt _ _ _ (stack >>= _) _ _ _
  refine PySem.wpAt_bind (PySem.wpAt_stack fun p below => PySem.wpAt_of_wpAny ?_)
  wp_walk
  refine PySem.wpAt_of_wpAny ?_
  rw [F.owner]
  repeat (first | with_reducible refine wpAny_madeHere_exc F.canon hC ?_ | with_reducible refine wpAny_loadPart_at hC ?_ | (with_reducible refine wpAny_isSubtype_exc hC ?_; first | rw [hcB] | rw [hcA] | rw [hcN]) | wp_step)
  show R _ _
  rw [Heap.size_push]
  exact hq
end
end Mine
-- Exc4
namespace Mine
abbrev excObj (t : Addr) : Obj := { cls := .ref 44, data := .fields #[.ref t, .none, .none, .none, .bool false, .none] }
abbrev tupObj (vs : List Value) : Obj := { cls := .type "tuple", data := .seq vs.toArray }
section
variable {prog : Program} {w : World} {A : Around} {h : Heap} {g : Array GenState} {d : Drawn} {t : Nat} {os : OsState}
theorem seg_make {rest : List Value} {R : Result → Shared → Prop} (X : (hd.heap_39 w.params).In h)
    (hq : codeAny (model prog w) (A.under (.builtin "type.__call__" ⟨.ref 44 :: rest, []⟩)) (.call (.ref 28) ⟨.ref (h.objs.size + 1) :: rest, []⟩) (InitBack (h.objs.size + 1) R) ⟨(h.push (tupObj rest)).push (excObj h.objs.size), g, d, t, os⟩)
    (hrest : rest.length ≤ sizeLine := by size_fits) :
    codeAny (model prog w) A (.call (.ref 44) ⟨rest, []⟩) R ⟨h, g, d, t, os⟩ := by
  obtain ⟨nm, q, sn, k0, k1, k2, k3, k5, hC⟩ := seg_cls X
  have call : Looks (model prog w) h (specialOf (.ref 44) "__call__") (some (.builtin "type.__call__")) := looks_specialIn X (by k_is)
  have typ : Looks (model prog w) h (isInstance (.ref 44) (.type "type")) true := ((Looks.ld (part := none) hC).andThen .now).andThen (Looks.of_pure tc_sub)
  have hm : Looks (model prog w) h (mroOf (.ref 44)) (.ref 44 :: segBm) := ((Looks.ld (part := none) hC).andThen .now).andThen .now
  refine codeAny_of_tree ?_
  show wpAny _ _ (callAny (.ref 44) _) _ _ _
  refine nd_load hC ?_
  show wpAny _ _ (callAny.viaDunder (.ref 44) _) _ _ _
  unfold callAny.viaDunder
  refine wpAny_bind (call.at ?_)
  dsimp only
  rw [tc_bind]
  refine wpAny_bind (wpAny_pure (wpAny_bind (wpAny_pure ?_)))
  refine wpAny_pure (a := Fin.again (.call (.builtin "type.__call__") ⟨.ref 44 :: rest, []⟩)) (And.intro rfl ?_)
  refine codeAny_call_builtin_at (Code.quiet_builtin _ (by decide +kernel)) entry_typeCall (check_slot tc_kind tc_split typ (tc_args _ _ _) ?_)
  have F := PySem.F.excBase_Exception
  repeat (first | with_reducible refine wpAny_loadPart_at hC ?_ | with_reducible refine wpAny_madeBy_exc hC ?_ | wp_step)
  refine codeAny_call_builtin_code (Code.quiet_builtin _ F.quiet) (seg_check_new hC ?_)
  refine seg_new hC ?_ hrest
  show wpAny _ _ _ _ _ _
  have k : ∀ b o, h.get? b = some o → ((h.push (tupObj rest)).push (excObj h.objs.size)).get? b = some o := fun b o e => Heap.get?_push_of_some _ (Heap.get?_push_of_some _ e)
  have hx : ((h.push (tupObj rest)).push (excObj h.objs.size)).get? (h.objs.size + 1) = some (excObj h.objs.size) := by heap_get
  have X' := X.keeps k
  have t1 : Looks (model prog w) ((h.push (tupObj rest)).push (excObj h.objs.size)) (typeOf (.ref (h.objs.size + 1))) (.ref 44) := (Looks.ld hx).andThen .now
  have s1 : Looks (model prog w) ((h.push (tupObj rest)).push (excObj h.objs.size)) (isInstance (.ref (h.objs.size + 1)) (.ref 44)) true := t1.andThen (looks_mroIn X' (by k_is))
  have i1 : Looks (model prog w) ((h.push (tupObj rest)).push (excObj h.objs.size)) (specialOf (.ref (h.objs.size + 1)) "__init__") (some (.ref 28)) := t1.andThen (looks_findIn X' (by k_is))
  have b1 := bind_fn (M := model prog w) X' (f := 28) (.ref (h.objs.size + 1)) (by k_is)
  refine wpAny_bind (s1.at ?_)
  rw [if_neg (by decide)]
  refine wpAny_bind (wpAny_holding (wpAny_bind (i1.at (wpAny_holding (wpAny_bind (b1.at (wpAny_bind (wpAny_call ?_))))))))
  refine codeAny_mono hq fun r s' z => ?_
  rcases r with e | (v | _ | _ | _) <;> first | exact z | exact z.elim | skip
  obtain ⟨rfl, z⟩ := z
  exact wpAny_pure (wpAny_pure z)
end
end Mine
-- Exc5
namespace Mine
abbrev excObjD (t d : Addr) : Obj := { cls := .ref 44, dict := some d, data := .fields #[.ref t, .none, .none, .none, .bool false, .none] }
abbrev msgDict (w : World) (msg : Str) (tm tk : Tok) : Obj := dictOf [⟨PyData.keyHash w.params (Str.ofString "message"), .str (Str.ofString "message") tk, .str msg tm⟩] 1
section
variable {w : World} {A : Around} {E : Value → Shared → Prop} {s : Shared} {h₀ : Heap} {L : Addr} {m : Str → Option Value} {news : List (Addr × Obj)} {x : Addr}
theorem but_fr {h h' : Heap} {o o' : Obj} (F : Fr h₀ L h m) (N : News h₀ L h ((x, o) :: news)) (hne : ∀ p ∈ news, p.1 ≠ x) (hx : h'.get? x = some o') (hk : ∀ b o, b ≠ x → h.get? b = some o → h'.get? b = some o) :
    Fr h₀ L h' m ∧ News h₀ L h' ((x, o') :: news) := by
  have D := N _ (.head _)
  obtain ⟨oL, es, ep, hL, r⟩ := F.ns
  refine ⟨⟨⟨oL, es, ep, hk _ _ (Ne.symm D.2.1) hL, r⟩, fun b ob q => hk b ob (fun z => ?_) (F.keep b ob q), F.above⟩, fun p hp => ?_⟩
  · have := D.2.2; rw [← z, q] at this; cases this
  · rcases List.mem_cons.mp hp with rfl | hp
    · exact ⟨hx, D.2⟩
    · have P := N p (.tail _ hp)
      exact ⟨hk _ _ (hne p hp) P.1, P.2⟩
theorem seg_check_init {M : Model} {A : Around} {E : Value → Shared → Prop} {h : Heap} {g : Array GenState} {d : Drawn} {t : Nat} {os : OsState} {nm q : Str} {N : Addr} {bs : List Value} {hdct : Bool} {sn : List Str} {sub : List Value} {ab : Bool} {col : Option Bool} {dd : Option Addr} {k0 k1 k2 k3 k5 : Option Value}
    {e : Addr} {oe : Obj} {rest : List Value} {Q : Unit → Shared → Prop}
    (hC : h.get? 44 = some (excClassObj nm q 44 N bs segBm hdct sn sub ab col dd k0 k1 k2 k3 k5 "Exception.__new__")) (he : h.get? e = some oe) (hcls : oe.cls = .ref 44) (hq : Q () ⟨h, g, d, t, os⟩) :
    wpAny M A (checkBuiltinCall "Exception.__init__" ⟨.ref e :: rest, []⟩) Q E ⟨h, g, d, t, os⟩ := by
  have F := PySem.F.excBase_Exception
  have hcB : (Value.ref 44 :: segBm).contains (.type "Exception") = true := by decide +kernel
  have hshort := F.noStar
  simp only [checkBuiltinCall, F.initKind, F.initSplit, F.initRow]
  repeat (first | (with_reducible refine wpAny_loadPart_at he ?_; rw [hcls]) | with_reducible refine wpAny_loadPart_at hC ?_ | (with_reducible refine wpAny_isSubtype_exc hC ?_; rw [hcB]) | wp_step)
  refine wpAny_onRaise ?_
  rw [show ∀ (a b : String) (n : Nat), Bind.check ⟨.positional, "*", "Exception", .self, [⟨"args", .varPos, false⟩]⟩ a b n (List.map (fun x => x.fst) ({ pos := Value.ref e :: rest } : Args).kw) = pure () from
    fun a b n => check_star_args _ _ _ _ _ _]
  exact wpAny_pure hq
theorem news_drop3 {h : Heap} {a b c : Addr × Obj} (N : News h₀ L h (a :: b :: c :: news)) : News h₀ L h (a :: b :: news) := fun p hp => N p (by
  rcases List.mem_cons.mp hp with rfl | hp
  · exact .head _
  · rcases List.mem_cons.mp hp with rfl | hp
    · exact .tail _ (.head _)
    · exact .tail _ (.tail _ (.tail _ hp)))
theorem exc_init {t0 : Addr} {v : Value} {Q : Value → Shared → Prop} (F : Fr h₀ L s.heap m) (X₀ : (hd.heap_39 w.params).In h₀) (N : News h₀ L s.heap ((x, excObj t0) :: news)) (hne : ∀ p ∈ news, p.1 ≠ x)
    (h : ∀ t' h', Fr h₀ L h' m → News h₀ L h' ((x, excObj t') :: news) → Q .none { s with heap := h' }) :
    wpAny (model PySem.Challenge.rw_xm0807_01.row.prog w) A (call (.builtin "Exception.__init__") [.ref x, v]) Q E s := by
  have X := X₀.keeps F.keep
  have he := (N _ (.head _)).1
  have hlt := Heap.lt_size he
  have FB := PySem.F.excBase_Exception
  obtain ⟨nm, q, sn, k0, k1, k2, k3, k5, hC⟩ := seg_cls X
  obtain ⟨hh, g, dr, tk, os⟩ := s
  refine wpAny_call (codeAny_call_builtin FB.init.plain FB.initEntry (seg_check_init hC he rfl ?_))
  unfold Builtin.«BaseException.__init__»
  dsimp only
  rw [if_neg (by simp)]
  unfold newTuple Builtin.BaseException.bexcPut
  have he₁ := Heap.get?_push_of_some (h := hh) (tupObj [v]) he
  refine wpAny_bind (wpAny_newObj_type (wpAny_bind (wpAny_bind (wpAny_field he₁ rfl rfl (wpAny_bind (wpAny_setField he₁ rfl (by show 0 < 6; decide) ?_))))) (by size_fits))
  refine wpAny_letGo (wpAny_pure ?_)
  have q := but_fr (h' := (hh.push (tupObj [v])).update x (Obj.mapFields (·.setIfInBounds 0 (.ref hh.objs.size)))) (o' := excObj hh.objs.size) F N hne
    (by rw [Heap.get?_update_self _ he₁ rfl]; rfl)
    (fun b o hb ho => by rw [Heap.get?_update_other _ _ (Ne.symm hb)]; exact Heap.get?_push_of_some _ ho)
  exact h _ _ q.1 q.2
theorem msg_setK {t : Addr} {v : Value} {Q : Unit → Shared → Prop} (F : Fr h₀ L s.heap m) (X₀ : (hd.heap_39 w.params).In h₀) (N : News h₀ L s.heap ((x, excObj t) :: news)) (hne : ∀ p ∈ news, p.1 ≠ x)
    (h : ∀ d tk h' tk', d ≠ x → (∀ p ∈ news, p.1 ≠ d) → Fr h₀ L h' m → News h₀ L h' ((x, excObjD t d) :: (d, dictOf [⟨PyData.keyHash w.params (Str.ofString "message"), .str (Str.ofString "message") tk, v⟩] 1) :: news) → Q () { s with heap := h', toks := tk' }) :
    wpAny (model PySem.Challenge.rw_xm0807_01.row.prog w) A (setAttr (.ref x) (Str.ofString "message") v) Q E s := by
  have he := (N _ (.head _)).1
  refine msg_set (X₀.keeps F.keep) he fun d h' tk' tk hd hdx hx hdd hk => ?_
  have q := but_fr F N hne hx hk
  refine h d tk h' tk' hdx (fun p hp z => ?_) q.1 fun p hp => ?_
  · have := (N p (.tail _ hp)).1; rw [z, hd] at this; cases this
  · rcases List.mem_cons.mp hp with rfl | hp
    · exact q.2 _ (.head _)
    · rcases List.mem_cons.mp hp with rfl | hp
      · refine ⟨hdd, fun z => ?_, ?_⟩
        · obtain ⟨oL, es, ep, hL, r⟩ := F.ns
          have z' : d = L := z
          rw [← z', hd] at hL; cases hL
        · cases e : h₀.get? d with
          | none => rfl
          | some o => have := F.keep _ _ e; rw [hd] at this; cases this
      · exact q.2 _ (.tail _ hp)
end
section
theorem meta_Exc : typeOf (.type "Exception") = pure (.type "type") := by kernel_rfl
local macro_rules | `(tactic| walk_at "getMethod type:Exception") => `(tactic| (k_here; refine' method_type ?F ?X ?m (by decide +kernel) ?e ?h ?_; (case F => k_asm); (case X => k_asm); (case m => exact meta_Exc); (case e => k_dflt k_is); (case h => k_handed)))
local macro_rules | `(tactic| walk_at "call builtin:Exception.__init__") => `(tactic| (k_here; refine' exc_init ?F ?X ?N ?n ?_; (case F => k_asm); (case X => k_asm); (case N => k_asm); (case n => assumption); intro t' h' F' N'))
local macro_rules | `(tactic| walk_at "setAttr ref") => `(tactic| (k_here; refine' msg_setK ?F ?X ?N ?n ?_; (case F => k_asm); (case X => k_asm); (case N => k_asm); (case n => assumption); intro d' tk' h' tk2' dx' dn' F' N'))
theorem seg_call {w : World} {A : Around} {mean : ExcName → Option Value} {mg mb : Str → Option Value} {env : Env} {outer : List Env} {A₀ : Around} {base h₀ : Heap} {L : Addr} {m : Str → Option Value} {news : List (Addr × Obj)} {s : Shared}
    {msg : Str} {tm : Tok} {Q E : Value → Shared → Prop}
    (B : Below A₀ base outer h₀) (F : Fr h₀ L s.heap m) (X : (hd.heap_39 w.params).In h₀) (N : News h₀ L s.heap news) (T : Top hd.view_39 (looseW hd.view_39 []) mean mg mb h₀)
    (hA : A.frames = some (env :: outer)) (hf : env.frame = some L) (hke : env.scope.kind = .function) (hdp : A.depth + 2 < recursionLimit)
    (hret : ∀ e d t tk (h' : Heap) (tk' : Nat), (∀ p ∈ news, p.1 ≠ e ∧ p.1 ≠ d) → e ≠ d → Fr h₀ L h' m → News h₀ L h' ((e, excObjD t d) :: (d, msgDict w msg tm tk) :: news) → Q (.ref e) { s with heap := h', toks := tk' }) :
    wpAny (model PySem.Challenge.rw_xm0807_01.row.prog w) A (call (.ref 44) [.str msg tm]) Q E s := by
  obtain ⟨hh, g, dr, t, os⟩ := s
  refine wpAny_call (seg_make (X.keeps F.keep) ?_)
  have N1 := (N.push F (tupObj [.str msg tm])).push (F.push _) (excObj hh.objs.size)
  have F1 := (F.push (tupObj [.str msg tm])).push (excObj hh.objs.size)
  have hlt : ∀ p ∈ news, p.1 < hh.objs.size := fun p hp => Heap.lt_size (N p hp).1
  rw [Heap.size_push] at N1
  refine' code_def (binds := [(Str.ofString "self", .ref (hh.objs.size + 1)), (Str.ofString "message", .str msg tm)]) B F1 X N1 T hA hf hke ?k6 ?k7 ?k8 ?k9 ?kB ?_ ?c2 ?c3 ?c4 ?c5
  case k6 => k_is
  case k7 => k_is
  case k8 => (simp only [depth_under_make]; omega)
  case k9 => exact BindsTo.of_eq rfl
  case c5 => decide
  case kB => exact locs rfl
  case c2 => exact rfl
  case c3 => exact rfl
  case c4 => exact rfl
  intro g' L' h' FG' F' N' B' X' T'
  have hne : ∀ p ∈ (hh.objs.size, tupObj [.str msg tm]) :: news, p.1 ≠ hh.objs.size + 1 := fun p hp => by
    rcases List.mem_cons.mp hp with rfl | hp
    · exact Nat.ne_of_lt (Nat.lt_succ_self _)
    · exact Nat.ne_of_lt (Nat.lt_succ_of_lt (hlt p hp))
  (try dsimp only)
  (try k_lift B')
  (try k_fold)
  k_steps
  refine' hret _ _ _ _ _ _ ?ka ?kb ?kc ?kd
  case kc => k_asm
  case kd => exact news_drop3 (by k_asm)
  case ka =>
    intro p hp
    exact ⟨Nat.ne_of_lt (Nat.lt_succ_of_lt (hlt p hp)), (show ∀ p ∈ (hh.objs.size, tupObj [.str msg tm]) :: news, p.1 ≠ _ from by assumption) p (.tail _ hp)⟩
  case kb => exact Ne.symm (by assumption)
end
end Mine
-- Fly1
namespace Mine
/-- a SegmentError in flight (its traceback's head marked fl): what it is, and that its dict stays the same -/
def FlyD (B : Heap) (l : List Env) (e d : Addr) (fl : Value) (h : Heap) : Prop :=
  B.StaysIn h ∧ B.get? e = none ∧ h.FunFrames B l ∧ ∃ oe vs T oT ts, h.get? e = some oe ∧ (oe.cls = .ref 44 ∧ oe.dict = some d) ∧ oe.data = .fields vs ∧ vs[1]? = some (.ref T) ∧ B.get? T = none ∧ T ≠ e ∧ h.get? T = some oT ∧ oT.data = .fields ts ∧ ts[3]? = some fl
section
variable {M : Model} {A : Around} {E : Value → Shared → Prop} {s : Shared} {B : Heap} {env : Env} {outer : List Env} {L e d : Addr} {Q : Unit → Shared → Prop}
theorem dict_mapFields (o : Obj) (f : Array Value → Array Value) : (o.mapFields f).dict = o.dict := by
  obtain ⟨c, dd, dt, sl⟩ := o
  cases dt <;> rfl
theorem entryD {oe : Obj} {vs : Array Value} {head : Value} {hadNext : Bool} (hfr : A.frames = some (env :: outer)) (hl : s.heap.FunFrames B (env :: outer)) (hf : env.frame = some L)
    (he : s.heap.get? e = some oe) (hc : oe.cls = .ref 44 ∧ oe.dict = some d) (hkb : B.StaysIn s.heap) (hen : B.get? e = none) (hd : oe.data = .fields vs) (hsz : 1 < vs.size)
    (h : ∀ h', FlyD B (env :: outer) e d (rawInt L) h' → s.heap.UpToSlots h' → Q () { s with heap := h' }) :
    wpAny M A (do let a ← frameOf env; let pl ← entryPlaceOf L hadNext; let b ← EntryCells.newEntry head a .none (rawInt L) .none pl; setField (.ref e) 1 b) Q E s := by
  have hene : e ∉ (env :: outer).filterMap (·.frame) := fun hm => by
    obtain ⟨_, o, ho, hnf⟩ := hl.mem hm
    rw [he] at ho; injection ho with ho; subst ho; exact hnf vs hd
  refine wpAny_bind (wpAny_frameOf_fun hfr hl hf fun h₁ hs₁ => ?_)
  refine wpAny_bind (wpAny_entryPlaceOf fun pl hpl => ?_)
  unfold EntryCells.newEntry newFields
  refine wpAny_bind (wpAny_newObj_type ?_ (hpl.sizeOk5 _ _ _ _ _))
  have he₁ : h₁.get? e = some oe := (hs₁.2.1 e hene).trans he
  have kb₁ : B.StaysIn h₁ := fun b o hbo => (hs₁.2.1 b fun hm => by rw [(hl.mem hm).1] at hbo; cases hbo).trans (hkb b o hbo)
  generalize hT : ({ cls := .type "traceback", dict := none, data := .fields ([head, .ref L, .none, rawInt L, .none] ++ (if pl.isEmpty then List.replicate 6 Value.none else pl)).toArray } : Obj) = oT
  have hTd : oT.data = .fields ([head, .ref L, .none, rawInt L, .none] ++ (if pl.isEmpty then List.replicate 6 Value.none else pl)).toArray := by rw [← hT]
  have hTf : oT.isFreed = false := by rw [← hT]; rfl
  have he₂ := Heap.get?_push_of_some (h := h₁) oT he₁
  refine wpAny_setField he₂ hd hsz (h _ ?_ ?_)
  · have hTe : h₁.objs.size ≠ e := Nat.ne_of_gt (Heap.lt_size he₁)
    have hd₃ := Obj.data_mapFields hd (·.setIfInBounds 1 (Value.ref h₁.objs.size))
    have he₃ := Heap.get?_update_self (Obj.mapFields (·.setIfInBounds 1 (Value.ref h₁.objs.size))) he₂ (Obj.isFreed_of_fields hd₃)
    have hT₃ := (Heap.get?_update_other (h₁.push oT) (Obj.mapFields (·.setIfInBounds 1 (Value.ref h₁.objs.size))) (Ne.symm hTe)).trans (Heap.get?_push_size h₁ hTf)
    have keep : ∀ b o, b ≠ e → h₁.get? b = some o → ((h₁.push oT).update e (Obj.mapFields (·.setIfInBounds 1 (Value.ref h₁.objs.size)))).get? b = some o := fun b o hbe hb => by
      rw [Heap.get?_update_other _ _ (Ne.symm hbe)]
      exact Heap.get?_push_of_some _ hb
    have noRecord : ∀ b o, s.heap.get? b = some o → (∀ vs, o.data ≠ .fields vs) → b ≠ e := fun b o hb hnf q => by
      rw [q, he] at hb; injection hb with hb; subst hb; exact hnf vs hd
    refine ⟨fun b o hbo => keep b o (fun q => by rw [q, hen] at hbo; cases hbo) (kb₁ b o hbo), hen, hl.of_keeps fun b o hb hnf => ?_, ?_⟩
    · obtain ⟨sl, hs⟩ := hs₁.2.2 b o hb
      exact ⟨_, keep b _ (noRecord b o hb hnf) hs, rfl⟩
    · exact ⟨_, _, h₁.objs.size, _, _, he₃, ⟨(Obj.cls_mapFields _ _).trans hc.1, (dict_mapFields _ _).trans hc.2⟩, hd₃, by simp [hsz], kb₁.fresh, hTe, hT₃, hTd, by first | (simp; done) | (rcases hpl with rfl | ⟨_, _, _, _, _, _, _, rfl⟩ <;> simp)⟩
  · intro b o hb hnf
    obtain ⟨sl, hs⟩ := hs₁.2.2 b o hb
    refine ⟨sl, ?_⟩
    have hbe : b ≠ e := fun q => by rw [q, he] at hb; injection hb with hb; subst hb; exact hnf vs hd
    rw [Heap.get?_update_other _ _ (Ne.symm hbe)]
    exact Heap.get?_push_of_some _ hs
theorem noteD1 {oe : Obj} {vs : Array Value} (hfr : A.frames = some (env :: outer)) (hl : s.heap.FunFrames B (env :: outer)) (hf : env.frame = some L)
    (he : s.heap.get? e = some oe) (hc : oe.cls = .ref 44 ∧ oe.dict = some d) (hkb : B.StaysIn s.heap) (hen : B.get? e = none) (hd : oe.data = .fields vs) (h1 : vs[1]? = some .none)
    (h : ∀ h', FlyD B (env :: outer) e d (rawInt L) h' → s.heap.UpToSlots h' → Q () { s with heap := h' }) : wpAny M A (noteFrame (.ref e) env) Q E s := by
  unfold noteFrame
  simp only [hf]
  refine wpAny_bind (wpAny_field he hd h1 ?_)
  rw [if_neg (by decide)]
  exact entryD hfr hl hf he hc hkb hen hd (Array.getElem?_eq_some_iff.mp h1).1 h
theorem noteD2 (hfr : A.frames = some (env :: outer)) (hf : env.frame = some L) (hfl : FlyD B (env :: outer) e d .none s.heap)
    (h : ∀ h', FlyD B (env :: outer) e d (rawInt L) h' → s.heap.UpToSlots h' → Q () { s with heap := h' }) : wpAny M A (noteFrame (.ref e) env) Q E s := by
  obtain ⟨hkb, hen, hl, oe, vs, T, oT, ts, he, hc, hd, h1, hnT, hTe, hT, hdT, h3⟩ := hfl
  unfold noteFrame
  simp only [hf]
  refine wpAny_bind (wpAny_field he hd h1 ?_)
  rw [if_pos (show (Value.ref T != Value.none) = true from by simp)]
  refine wpAny_bind (wpAny_field hT hdT h3 ?_)
  rw [if_neg (show ¬ ((Value.none == rawInt L) = true) from by simp [rawInt])]
  refine wpAny_bind (wpAny_setField hT hdT (Array.getElem?_eq_some_iff.mp h3).1 ?_)
  have other : ∀ b, b ≠ T → (s.heap.update T (Obj.mapFields (·.setIfInBounds 3 Value.none))).get? b = s.heap.get? b := fun b hb => Heap.get?_update_other _ _ (Ne.symm hb)
  have noRecord : ∀ b o, s.heap.get? b = some o → (∀ vs, o.data ≠ .fields vs) → b ≠ T := fun b o hb hnf q => by
    rw [q, hT] at hb; injection hb with hb; subst hb; exact hnf ts hdT
  exact entryD hfr (hl.of_keeps fun b o hb hnf => ⟨o, (other b (noRecord b o hb hnf)).trans hb, rfl⟩) hf ((other e (Ne.symm hTe)).trans he) hc
    (fun b o hbo => (other b fun q => by rw [q, hnT] at hbo; cases hbo).trans (hkb b o hbo)) hen hd (Array.getElem?_eq_some_iff.mp h1).1
    fun h' x1 x2 => h h' x1 fun b o hb hnf => x2 b o ((other b (noRecord b o hb hnf)).trans hb) hnf
theorem landD {l : List Env} {fl : Value} (hfl : FlyD B l e d fl s.heap) (h : ∀ h', FlyD B l e d .none h' → s.heap.UpToSlots h' → Q () { s with heap := h' }) :
    wpAny M A (setFlight (.ref e) none) Q E s := by
  obtain ⟨hkb, hen, hl, oe, vs, T, oT, ts, he, hc, hd, h1, hnT, hTe, hT, hdT, h3⟩ := hfl
  have hsz3 : 3 < ts.size := (Array.getElem?_eq_some_iff.mp h3).1
  have other : ∀ b, b ≠ T → (s.heap.update T (Obj.mapFields (·.setIfInBounds 3 Value.none))).get? b = s.heap.get? b := fun b hb => Heap.get?_update_other _ _ (Ne.symm hb)
  have noRecord : ∀ b o, s.heap.get? b = some o → (∀ vs, o.data ≠ .fields vs) → b ≠ T := fun b o hb hnf q => by
    rw [q, hT] at hb; injection hb with hb; subst hb; exact hnf ts hdT
  unfold setFlight
  refine wpAny_bind (wpAny_field he hd h1 ?_)
  rw [if_pos (show (Value.ref T != Value.none) = true from by simp)]
  refine wpAny_setField hT hdT hsz3 (h _ ⟨fun b o hbo => (other b fun q => by rw [q, hnT] at hbo; cases hbo).trans (hkb b o hbo), hen,
    hl.of_keeps fun b o hb hnf => ⟨o, (other b (noRecord b o hb hnf)).trans hb, rfl⟩, ?_⟩ fun b o hb hnf => ⟨o.slots, (other b (noRecord b o hb hnf)).trans hb⟩)
  exact ⟨oe, vs, T, _, _, (other e (Ne.symm hTe)).trans he, hc, hd, h1, hnT, hTe, Heap.get?_update_self _ hT (Obj.isFreed_of_fields (Obj.data_mapFields hdT _)), Obj.data_mapFields hdT _, by simp [hsz3]⟩
theorem FlyD.tail {fl : Value} {h : Heap} (x : FlyD B (env :: outer) e d fl h) : FlyD B outer e d fl h := ⟨x.1, x.2.1, x.2.2.1.2.2, x.2.2.2⟩
/-- leaving the frame that raised -/
theorem leaveD1 {oe : Obj} {vs : Array Value} (hfr : A.frames = some (env :: outer)) (hl : s.heap.FunFrames B (env :: outer)) (hf : env.frame = some L)
    (he : s.heap.get? e = some oe) (hc : oe.cls = .ref 44 ∧ oe.dict = some d) (hkb : B.StaysIn s.heap) (hen : B.get? e = none) (hd : oe.data = .fields vs) (h1 : vs[1]? = some .none)
    (h : ∀ h', FlyD B outer e d .none h' → s.heap.UpToSlots h' → Q () { s with heap := h' }) : wpAny M A (leaving env (.ref e)) Q E s := by
  unfold leaving
  exact wpAny_bind (noteD1 hfr hl hf he hc hkb hen hd h1 fun h₁ x1 u1 => landD x1 fun h₂ x2 u2 => h h₂ x2.tail (u1.trans u2))
/-- leaving a frame that it flies through -/
theorem leaveD2 (hfr : A.frames = some (env :: outer)) (hf : env.frame = some L) (hfl : FlyD B (env :: outer) e d .none s.heap)
    (h : ∀ h', FlyD B outer e d .none h' → s.heap.UpToSlots h' → Q () { s with heap := h' }) : wpAny M A (leaving env (.ref e)) Q E s := by
  unfold leaving
  exact wpAny_bind (noteD2 hfr hf hfl fun h₁ x1 u1 => landD x1 fun h₂ x2 u2 => h h₂ x2.tail (u1.trans u2))
end
end Mine
-- Want1
namespace Mine
/-- all that the caller's heap holds, off its ledger, stands in g -/
abbrev Whole (hc g : Heap) (news : List (Addr × Obj)) : Prop := ∀ b o, hc.get? b = some o → b ∉ news.map (·.1) → g.get? b = some o
section
variable {prog : Program} {w : World} {A₀ A : Around} {s : Shared} {K : Frag} {base h₀ : Heap} {outer : List Env} {L : Addr} {m mg mb : Str → Option Value} {env : Env} {news : List (Addr × Obj)} {p : Program} {loose : List Str} {mean : ExcName → Option Value}
  {R : Result → Shared → Prop} {name qual : Str} {params : Arguments} {body : List Stmt} {scope : Scope} {dV kV doc pm cdv ct oc : Value} {an od : Option Addr} {osl : Array (Option Value)} {f : Addr} {args : Args} {binds : List (Str × Value)}
theorem enter (B : Below A₀ base outer h₀) (F : Fr h₀ L s.heap m) (X₀ : K.In h₀) (N : News h₀ L s.heap news) (T : Top p loose mean mg mb h₀) (hA : A.frames = some (env :: outer)) (hf : env.frame = some L) (hke : env.scope.kind = .function)
    (ho : K.lookup f = some ⟨oc, od, .func (fnOf name qual params body scope dV kV doc pm an cdv ct), osl⟩) (hcd : codeIn K cdv qual = true) (hroom : A.depth < recursionLimit)
    (hbind : BindsTo s (fnOf name qual params body scope dV kV doc pm an cdv ct) args binds) (hloc : ∀ y ∈ binds, scope.names.lookup y.1 = some .local)
    (h : ∀ g L' h₁, Whole s.heap g news → Fr h₀ L g m → Fr g L' h₁ (fun y => binds.reverse.lookup y) → News g L' h₁ news → Below A base (env :: outer) g → K.In g → Top p loose mean mg mb g →
      wpAny (model prog w) (A.deeper (envOf qual scope L' f cdv)) (execs body (envOf qual scope L' f cdv))
        (fun fl s' => LeaveK h₀ L m g R (match fl with | .ret v => v | _ => .none) s')
        (fun e s' => wpAny (model prog w) (A.deeper (envOf qual scope L' f cdv)) (leaving (envOf qual scope L' f cdv) e) (fun _ s'' => R (.error e) s'') (fun e' s'' => R (.error e') s'') s')
        { s with heap := h₁, toks := s.toks + binds.length })
    (hco : scope.isCoroutine = false) (hgen : scope.isGenerator = false) (hk : scope.kind = .function) (hcell : ∀ x ∈ scope.names, x.2 ≠ .cell) : codeAny (model prog w) A (.call (.ref f) args) R s := by
  obtain ⟨FG, BG, st, lv⟩ := groundX (R := R) B F N hA hf hke
  refine codeAny_call_def (fd := fnOf name qual params body scope dV kV doc pm an cdv ct) (body := body) (binds := binds) hroom ((X₀.keeps F.keep) _ _ ho) rfl (T.nolimit.keeps F.keep) (codeRec_of (X₀.keeps F.keep) hcd) rfl hbind hcell hloc (fun h₁ hns hk₁ => ?_) hco hgen hk
  exact wpAny_mono (h _ s.heap.objs.size h₁ (fun b o e n => hideAll_get _ e n) FG ⟨hns, fun b o e => hk₁ b o (of_hideAll _ e), Nat.le_of_eq (hideAll_size _ _)⟩
    (fun p hp => ⟨hk₁ _ _ (N p hp).1, Nat.ne_of_lt (Heap.lt_size (N p hp).1), hideAll_none _ (List.mem_map_of_mem hp)⟩) BG (X₀.keeps st) (T.keeps st)) (fun fl s' hl => lv _ _ hl) fun _ _ y => y
end
/-- what a raise hands on: all that stood still stands; the exception's dict says the message -/
def Thrown (w : World) (hc : Heap) (l : List Env) (msg : Str) (e : Addr) (h' : Heap) : Prop :=
  ∃ B d tm tk, (∀ b o, hc.get? b = some o → b ∉ l.filterMap (·.frame) → B.get? b = some o) ∧ B.get? d = some (msgDict w msg tm tk) ∧ FlyD B l e d .none h' ∧ hc.UpToSlots h'
section
variable {w : World} {M : Model} {A : Around} {E : Value → Shared → Prop} {s' : Shared} {hc base h₀ g : Heap} {envs : List Env} {L L' a e d t : Addr} {m m' : Str → Option Value} {name : Str} {scope : Scope} {cd : Value} {Q : Unit → Shared → Prop} {news : List (Addr × Obj)} {msg : Str} {tm tk : Tok}
theorem mem_or {hc g h : Heap} {L L' : Addr} (N₀ : News h₀ L hc news) (W : Whole hc g news) (kp : ∀ b o, g.get? b = some o → h.get? b = some o) (N : ∀ p ∈ news, h.get? p.1 = some p.2) : ∀ b o, hc.get? b = some o → h.get? b = some o := by
  intro b o hb
  by_cases hm : b ∈ news.map (·.1)
  · obtain ⟨p, hp, rfl⟩ := List.mem_map.mp hm
    have := (N₀ p hp).1
    rw [hb] at this
    cases this
    exact N p hp
  · exact kp b o (W b o hb hm)
theorem raise_out (N₀ : News h₀ L hc news) (W : Whole hc g news) (B : Below A base envs g) (F : Fr g L' s'.heap m') (N : News g L' s'.heap ((e, excObjD t d) :: (d, msgDict w msg tm tk) :: news)) (hed : e ≠ d) (hen : ∀ p ∈ news, p.1 ≠ e)
    (h : ∀ h', Thrown w hc envs msg e h' → Q () { s' with heap := h' }) (hk : scope.kind = .function := by rfl) :
    wpAny M (A.deeper (envOf name scope L' a cd)) (leaving (envOf name scope L' a cd) (.ref e)) Q E s' := by
  have K' := B.push (name := name) (a := a) (cd := cd) F hk
  have kp : ∀ b o, hc.get? b = some o → s'.heap.get? b = some o := mem_or N₀ W F.keep (L := L) (L' := L') fun p hp => (N p (.tail _ (.tail _ hp))).1
  have hfr : (e :: (envOf name scope L' a cd :: envs).filterMap (·.frame)) = (e :: (envOf name scope L' a cd :: envs).filterMap (·.frame)) := rfl
  have De := N _ (.head _)
  have Dd := N _ (.tail _ (.head _))
  have off : ∀ b, b ≠ L' → g.get? b = none → b ∉ (envOf name scope L' a cd :: envs).filterMap (·.frame) := fun b h1 h2 hm => by
    obtain ⟨env, he, hf⟩ := List.mem_filterMap.mp hm
    rcases List.mem_cons.mp he with rfl | he
    · exact h1 (Option.some.inj hf).symm
    · obtain ⟨o, ho, _⟩ := (B.frames.mem (List.mem_filterMap.mpr ⟨env, he, hf⟩)).2
      rw [h2] at ho; cases ho
  refine leaveD1 (B := hideAll s'.heap (e :: (envOf name scope L' a cd :: envs).filterMap (·.frame))) (d := d) K'.stack (funFrames_hide K'.frames fun env he b hb => .tail _ (List.mem_filterMap.mpr ⟨env, he, hb⟩)) rfl De.1 ⟨rfl, rfl⟩ (fun b o q => of_hideAll _ q) (hideAll_none _ (.head _)) rfl rfl fun h' x u => ?_
  refine h h' ⟨_, d, tm, tk, fun b o hb hn => ?_, ?_, x, (Heap.UpToSlots.of_keeps kp).trans u⟩
  · refine hideAll_get _ (kp b o hb) fun hm => ?_
    have hbL : b ≠ L' := fun z => by
      by_cases hmn : b ∈ news.map (·.1)
      · obtain ⟨p, hp, rfl⟩ := List.mem_map.mp hmn
        exact (N p (.tail _ (.tail _ hp))).2.1 z
      · exact absurd (Nat.lt_of_lt_of_le (Heap.lt_size (W b o hb hmn)) F.above) (z ▸ Nat.lt_irrefl _)
    rcases List.mem_cons.mp hm with z | hm
    · by_cases hmn : b ∈ news.map (·.1)
      · obtain ⟨p, hp, hp'⟩ := List.mem_map.mp hmn
        exact hen p hp (hp'.trans z)
      · have := W b o hb hmn
        rw [z, De.2.2] at this; cases this
    · obtain ⟨env, he, hf⟩ := List.mem_filterMap.mp hm
      rcases List.mem_cons.mp he with rfl | he
      · exact hbL (Option.some.inj hf).symm
      · exact hn (List.mem_filterMap.mpr ⟨env, he, hf⟩)
  · refine hideAll_get _ Dd.1 fun hm => ?_
    rcases List.mem_cons.mp hm with z | hm
    · exact hed z.symm
    · exact off d Dd.2.1 Dd.2.2 hm
/-- through a frame of a def that raises nothing itself -/
theorem throw_on {env : Env} {h₁ : Heap} (N₀ : News h₀ L hc news) (W : Whole hc g news) (hfrs : A.frames = some (env :: envs)) (hf : env.frame = some L') (F : Fr g L' h₁ m') (N : ∀ p ∈ news, h₁.get? p.1 = some p.2 ∧ p.1 ≠ L')
    (T : Thrown w h₁ (env :: envs) msg e s'.heap) (h : ∀ h', Thrown w hc envs msg e h' → Q () { s' with heap := h' }) : wpAny M A (leaving env (.ref e)) Q E s' := by
  obtain ⟨B, d, tm, tk, k, hd, fl, u⟩ := T
  have kp : ∀ b o, hc.get? b = some o → h₁.get? b = some o := mem_or N₀ W F.keep (L := L) (L' := L') fun p hp => (N p hp).1
  refine leaveD2 hfrs hf fl fun h' x u' => h h' ⟨B, d, tm, tk, fun b o hb hn => k b o (kp b o hb) fun hm => ?_, hd, x, (Heap.UpToSlots.of_keeps kp).trans (u.trans u')⟩
  obtain ⟨en, he, hfe⟩ := List.mem_filterMap.mp hm
  rcases List.mem_cons.mp he with rfl | he
  · have z : L' = b := Option.some.inj (hf.symm.trans hfe)
    by_cases hmn : b ∈ news.map (·.1)
    · obtain ⟨p, hp, hp'⟩ := List.mem_map.mp hmn
      exact (N p hp).2 (hp'.trans z.symm)
    · exact absurd (Nat.lt_of_lt_of_le (Heap.lt_size (W b o hb hmn)) F.above) (z ▸ Nat.lt_irrefl _)
  · exact hn (List.mem_filterMap.mpr ⟨en, he, hfe⟩)
end
end Mine
-- Want2
namespace Mine
def RaisedSeg (w : World) (E : Value → Shared → Prop) (v : Value) (s : Shared) : Prop := ∃ e t d, v = .ref e ∧ (hd.heap_39 w.params).In s.heap ∧ s.heap.get? e = some (excObjD t d) ∧ E (.ref e) s
section
variable {prog : Program} {w : World} {A : Around} {E : Value → Shared → Prop} {s : Shared} {env : Env}
theorem exec_raise {x : Expr} {pos : Pos} {Q : Flow → Shared → Prop} (hh : A.handled = none) (h : wpAny (model prog w) A (eval x env) (RaisedSeg w E) E s) : wpAny (model prog w) A (exec (.Raise (some x) none pos) env) Q E s := by
  rw [arm_exec_Raise]
  refine wpAny_bind (wpAny_standAt ?_)
  unfold raiseStmt
  refine wpAny_bind (wpAny_bind (wpAny_mono h (fun v s₁ h₁ => wpAny_bind (wpAny_standAt (wpAny_pure ?_))) fun _ _ y => y))
  obtain ⟨e, t, d, rfl, X, he, hE⟩ := h₁
  obtain ⟨nm, q, sn, k0, k1, k2, k3, k5, hC⟩ := seg_cls X
  have hcB : (Value.ref 44 :: segBm).contains (.type "BaseException") = true := by decide +kernel
  obtain ⟨hp, g, dr, tk, os⟩ := s₁
  repeat (first | with_reducible refine wpAny_loadPart_at he ?_ | with_reducible refine wpAny_loadPart_at hC ?_ | (with_reducible refine wpAny_isSubtype_exc hC ?_; rw [hcB]) | wp_step)
  exact wpAny_raiseNew_none hh hE
end
section
local macro_rules | `(tactic| walk_at "exec Raise some none") => `(tactic| (k_here; k_dflt (refine' exec_raise ?kh ?_; (case kh => exact rfl); k_whole)))
local macro_rules | `(tactic| walk_at "call ref") => `(tactic| (k_here; (with_reducible show wpAny _ _ (call (Value.ref 44) [Value.str _ _]) _ _ _); refine' seg_call ?B ?F ?X ?N ?T ?hA ?hf ?hk ?hd ?_; (case B => k_asm); (case F => k_asm); (case X => k_asm); (case N => k_asm); (case T => k_asm); (case hA => exact rfl); (case hf => exact rfl); (case hk => exact rfl); (case hd => ktr_room); intro e' d' t' tk' h' tk2' ne' ed' F' N'))
theorem want_ok {w : World} {mean : ExcName → Option Value} {mg mb : Str → Option Value} {dp un : Nat} {gd : Option (List Code)} {cn : Str} {cs : Scope} {a : Addr} {ccd : Value} {cl : List (Str × Addr)} {outer : List Env} {A₀ : Around} {base h₀ : Heap} {L : Addr} {m : Str → Option Value} {news : List (Addr × Obj)} {s : Shared}
    {b : Bool} {msg : Str} {tm : Tok} {Q E : Value → Shared → Prop}
    (B : Below A₀ base outer h₀) (F : Fr h₀ L s.heap m) (X : (hd.heap_39 w.params).In h₀) (N : News h₀ L s.heap news)
    (T : Top hd.view_39 (looseW hd.view_39 []) mean mg mb h₀) (hk : cs.kind = .function) (hdp : dp + 8 < recursionLimit)
    (hret : b = true → ∀ (h' : Heap) (tk' : Nat), Fr h₀ L h' m → News h₀ L h' news → Q .none { s with heap := h', toks := tk' })
    (herr : b = false → ∀ (e : Addr) (h' : Heap) (tk' : Nat), Thrown w s.heap (envX cn cs L a ccd cl :: outer) msg e h' → E (.ref e) { s with heap := h', toks := tk' }) :
    wpAny (model PySem.Challenge.rw_xm0807_01.row.prog w) (ktrTop dp un gd cn cs L a ccd cl outer) (call (.ref 74) [.bool b, .str msg tm]) Q E s := by
  refine wpAny_call ?_
  refine' enter (binds := [(Str.ofString "is_so", .bool b), (Str.ofString "message", .str msg tm)]) B F X N T rfl rfl hk ?k6 ?k7 ?k8 ?k9 ?kB ?_ ?c2 ?c3 ?c4 ?c5
  case k6 => k_is
  case k7 => k_is
  case k8 => ktr_room
  case k9 => exact BindsTo.of_eq rfl
  case c5 => decide
  case kB => exact locs rfl
  case c2 => exact rfl
  case c3 => exact rfl
  case c4 => exact rfl
  intro g' L' h' W' FG' F' N' B' X' T'
  cases b
  all_goals (
    (try dsimp only)
    (try k_lift B')
    (try k_fold)
    k_steps)
  · refine ⟨_, _, _, rfl, X'.keeps (Fr.keep (by k_asm)), News.get (by k_asm) (.head _), ?_⟩
    k_unfold
    dsimp only
    refine raise_out (L := L) (L' := L') (g := g') N W' B' (by k_asm) (by k_asm) (by assumption) ?_ ?_
    · intro p hp
      exact ((show ∀ p ∈ news, p.1 ≠ _ ∧ p.1 ≠ _ from by assumption) p hp).1
    · exact fun h' t => herr rfl _ _ _ t
  · exact hret rfl _ _ (by k_asm) (by k_asm)
end
end Mine
-- Unl1
namespace Mine
section
variable {prog : Program} {w : World} {A : Around} {E : Value → Shared → Prop} {s : Shared} {h₀ : Heap} {L : Addr} {news : List (Addr × Obj)} {l : Addr} {vs : List Value} {ns : List Int} {n : Nat}
theorem ret_bool {Q : Value → Shared → Prop} {b c : Bool} {s : Shared} (h : Q (.bool c) s) (e : c = b) : Q (.bool b) s := e ▸ h
theorem news_append {h : Heap} {a : Addr × Obj} {own : List (Addr × Obj)} (N : News h₀ L h (a :: (news ++ own))) : News h₀ L h news := fun p hp => N p (.tail _ (List.mem_append_left _ hp))
theorem len_led {Q : Value → Shared → Prop} (N : News h₀ L s.heap news) (hm : (l, listOf vs.toArray n) ∈ news) (hi : IntsAre vs ns) (hlen : ns.length ≤ 1000) (h : Q (.int ns.length (s.toks + 1)) { s with toks := s.toks + 1 + 1 }) :
    wpAny (model prog w) A (call (.builtin "len") [.ref l]) Q E s := by
  have hl : s.heap.IsList l vs.toArray := PySem.IsL.isList (n := n) (N _ hm).1
  have e : (List.toArray vs).size = ns.length := by rw [List.size_toArray]; exact hi.length
  refine call_len_list hl (by rw [e]; omega) ?_
  rw [e]; exact h
end
theorem nodup_step {ns : List Int} {k : Int} {i : Nat} (hk : k = 0 + (i : Int)) (hi : i < ((ns.length : Int) - 0).toNat) (h : (ns.take i).Nodup) (hn : ((ns.take k.toNat).any fun x => x == ns.getD k.toNat 0) = false) : (ns.take (i + 1)).Nodup := by
  have e : k.toNat = i := by omega
  rw [e] at hn
  have hl : i < ns.length := by omega
  have hg : ns.getD i 0 = ns[i] := by simp [hl]
  rw [hg] at hn
  rw [List.take_succ_eq_append_getElem hl, List.nodup_append]
  refine ⟨h, by simp, fun a ha b hb => ?_⟩
  rw [List.mem_singleton.mp hb]
  intro hab
  have := List.any_eq_false.mp hn a ha
  rw [hab] at this
  simp at this
theorem nodup_not {ns : List Int} {k : Int} {i : Nat} (hk : k = 0 + (i : Int)) (hi : i < ((ns.length : Int) - 0).toNat) (hn : ((ns.take k.toNat).any fun x => x == ns.getD k.toNat 0) = true) : ¬ ns.Nodup := by
  have e : k.toNat = i := by omega
  rw [e] at hn
  have hl : i < ns.length := by omega
  have hg : ns.getD i 0 = ns[i] := by simp [hl]
  rw [hg] at hn
  intro hnd
  obtain ⟨a, ha, hb⟩ := List.any_eq_true.mp hn
  have hab : a = ns[i] := by simpa using hb
  have h2 : (ns.take (i + 1)).Nodup := hnd.sublist (List.take_sublist _ _)
  rw [List.take_succ_eq_append_getElem hl, List.nodup_append] at h2
  exact h2.2.2 a ha ns[i] (by simp) hab
theorem nodup_all {ns : List Int} (h : (ns.take (rangeKs 0 ((ns.length : Int) - 0).toNat).length).Nodup) : ns.Nodup := by
  rw [rangeKs_length, List.take_of_length_le (by omega)] at h
  exact h
section
local macro_rules | `(tactic| walk_at "pyIter ref") => `(tactic| k_extra "loop")
local macro_rules | `(tactic| walk_at "subscriptTail") => `(tactic| (k_here; (with_reducible show wpAny _ _ (subscriptTail _ _ (Value.ref _) (Value.int _ _)) _ _ _); k_dflt (refine' ksa_sub ?N ?m ?i ?a ?b ?c ?_ ?d; (case N => k_asm); (case m => k_mem); (case i => assumption); (case a => omega); (case b => omega); (case c => omega); (case d => with_unfolding_all rfl); k_whole); intro t'))
local macro_rules | `(tactic| walk_at "call builtin:len") => `(tactic| (k_here; k_dflt (refine' len_led ?N ?m ?i ?l ?_; (case N => k_asm); (case m => k_mem); (case i => assumption); (case l => assumption); k_whole)))
theorem unlike_ok {w : World} {mean : ExcName → Option Value} {mg mb : Str → Option Value} {dp un : Nat} {gd : Option (List Code)} {cn : Str} {cs : Scope} {a : Addr} {ccd : Value} {cl : List (Str × Addr)} {outer : List Env} {A₀ : Around} {base h₀ : Heap} {L : Addr} {m : Str → Option Value} {news : List (Addr × Obj)} {s : Shared}
    {li : Addr} {vs : List Value} {ns : List Int} {n : Nat} {Q E : Value → Shared → Prop}
    (B : Below A₀ base outer h₀) (F : Fr h₀ L s.heap m) (X : (hd.heap_39 w.params).In h₀) (N : News h₀ L s.heap news)
    (T : Top hd.view_39 (looseW hd.view_39 []) mean mg mb h₀) (hk : cs.kind = .function) (hdp : dp + 8 < recursionLimit) (hm : (li, listOf vs.toArray n) ∈ news) (hi : IntsAre vs ns) (hlen : ns.length ≤ 1000)
    (hret : ∀ (h' : Heap) (tk' : Nat), Fr h₀ L h' m → News h₀ L h' news → Q (.bool (decide ns.Nodup)) { s with heap := h', toks := tk' }) :
    wpAny (model PySem.Challenge.rw_xm0807_01.row.prog w) (ktrTop dp un gd cn cs L a ccd cl outer) (call (.ref 81) [.ref li]) Q E s := by
  k_with_none
  k_with "loop" => (k_here; (rename IsRange _ _ _ _ _ _ _ _ => rgX); k_dflt (refine' kst_range (fun _ : Unit => news) (fun _ => []) (fun _ => True) [] (fun pre _ => (ns.take pre.length).Nodup) () ?lh rgX ?lsm ?lsz ?lF ?lN trivial (List.forall_mem_nil _) ?lp ?lt ?ld; (case lh => rfl); (case lsm => exact small_one (by omega) (by omega) (by omega) (by omega)); (case lsz => exact rangeSize_nat _ _); (case lF => k_asm); (case lN => k_asm); (case lp => exact List.Pairwise.nil)); (case' lt => (intro c9 pre k9 t9 u9 h9 tk9 own9 hk9 hlt9 hoff9 hf9 hp9 F9 N9; (try dsimp only); (try k_fold))); (case' ld => (intro c9 u9 h9 tk9 hf9 hp9 F9 N9; (try dsimp only); (try k_fold))))
  refine wpAny_call ?_
  refine' enter (binds := [(Str.ofString "idents", .ref li)]) B F X N T rfl rfl hk ?k6 ?k7 ?k8 ?k9 ?kB ?_ ?c2 ?c3 ?c4 ?c5
  case k6 => k_is
  case k7 => k_is
  case k8 => ktr_room
  case k9 => exact BindsTo.of_eq rfl
  case c5 => decide
  case kB => exact locs rfl
  case c2 => exact rfl
  case c3 => exact rfl
  case c4 => exact rfl
  intro g' L' h' W' FG' F' N' B' X' T'
  (try dsimp only)
  (try k_lift B')
  (try k_fold)
  k_steps
  · refine' ret_bool (hret _ _ ?_ ?_) (decide_eq_true (nodup_all (by assumption)))
    · k_asm
    · k_asm
  · refine' ret_bool (hret _ _ ?_ ?_) (decide_eq_false (nodup_not (by assumption) (by assumption) (by assumption)))
    · k_asm
    · exact news_append (by k_asm)
  · refine kst_end () (by k_asm) (by k_asm) (fun p hp => .tail _ (List.mem_append_left _ hp)) (fun p hp => .tail _ (List.mem_append_right _ hp)) rfl trivial (List.forall_mem_nil _) (by intro z h1 h2 h3; show (if z = _ then _ else kstB _ _ z) = _; rw [if_neg h1]; rfl) ?_
    show (ns.take (_ ++ [_]).length).Nodup
    rw [List.length_append]
    exact nodup_step (by assumption) (by assumption) (by assumption) (by assumption)
end
end Mine
-- Chk1
namespace Mine
/-- what check_scan says: the first thing that is wrong, or nothing -/
def verdict (ids one oth : List Int) (a b c d : Int) : Str :=
  if 1 ≤ ids.length ∧ ids.length ≤ 4 then
    if one.length = ids.length ∧ oth.length = ids.length then
      if ids.Nodup then
        if ∀ i ∈ ids, 0 ≤ i ∧ i ≤ 255 then
          if ∀ i ∈ one ++ oth, 0 ≤ i ∧ i ≤ 3 then
            if (0 ≤ a ∧ a ≤ 63) ∧ (0 ≤ b ∧ b ≤ 63) then
              if (0 ≤ c ∧ c ≤ 15) ∧ (0 ≤ d ∧ d ≤ 15) then Str.ofString ""
              else Str.ofString "a bit place is from 0 to 15"
            else Str.ofString "a band is from 0 to 63"
          else Str.ofString "a slot is from 0 to 3"
        else Str.ofString "a component's name is a number of one octet"
      else Str.ofString "a component stands twice in a scan"
    else Str.ofString "each component of a scan has two slots"
  else Str.ofString "a scan has 1 to 4 components"
section
variable {ids one oth : List Int} {a b c d : Int}
theorem vd1 (h : ¬ (1 ≤ ids.length ∧ ids.length ≤ 4)) : verdict ids one oth a b c d = Str.ofString "a scan has 1 to 4 components" := by unfold verdict; rw [if_neg h]
theorem vd2 (h1 : 1 ≤ ids.length ∧ ids.length ≤ 4) (h : ¬ (one.length = ids.length ∧ oth.length = ids.length)) : verdict ids one oth a b c d = Str.ofString "each component of a scan has two slots" := by unfold verdict; rw [if_pos h1, if_neg h]
theorem vd3 (h1 : 1 ≤ ids.length ∧ ids.length ≤ 4) (h2 : one.length = ids.length ∧ oth.length = ids.length) (h : ¬ ids.Nodup) : verdict ids one oth a b c d = Str.ofString "a component stands twice in a scan" := by unfold verdict; rw [if_pos h1, if_pos h2, if_neg h]
theorem vd4 (h1 : 1 ≤ ids.length ∧ ids.length ≤ 4) (h2 : one.length = ids.length ∧ oth.length = ids.length) (h3 : ids.Nodup) (h : ¬ ∀ i ∈ ids, 0 ≤ i ∧ i ≤ 255) : verdict ids one oth a b c d = Str.ofString "a component's name is a number of one octet" := by unfold verdict; rw [if_pos h1, if_pos h2, if_pos h3, if_neg h]
theorem vd5 (h1 : 1 ≤ ids.length ∧ ids.length ≤ 4) (h2 : one.length = ids.length ∧ oth.length = ids.length) (h3 : ids.Nodup) (h4 : ∀ i ∈ ids, 0 ≤ i ∧ i ≤ 255) (h : ¬ ∀ i ∈ one ++ oth, 0 ≤ i ∧ i ≤ 3) : verdict ids one oth a b c d = Str.ofString "a slot is from 0 to 3" := by unfold verdict; rw [if_pos h1, if_pos h2, if_pos h3, if_pos h4, if_neg h]
theorem vd6 (h1 : 1 ≤ ids.length ∧ ids.length ≤ 4) (h2 : one.length = ids.length ∧ oth.length = ids.length) (h3 : ids.Nodup) (h4 : ∀ i ∈ ids, 0 ≤ i ∧ i ≤ 255) (h5 : ∀ i ∈ one ++ oth, 0 ≤ i ∧ i ≤ 3) (h : ¬ ((0 ≤ a ∧ a ≤ 63) ∧ (0 ≤ b ∧ b ≤ 63))) : verdict ids one oth a b c d = Str.ofString "a band is from 0 to 63" := by unfold verdict; rw [if_pos h1, if_pos h2, if_pos h3, if_pos h4, if_pos h5, if_neg h]
theorem vd7 (h1 : 1 ≤ ids.length ∧ ids.length ≤ 4) (h2 : one.length = ids.length ∧ oth.length = ids.length) (h3 : ids.Nodup) (h4 : ∀ i ∈ ids, 0 ≤ i ∧ i ≤ 255) (h5 : ∀ i ∈ one ++ oth, 0 ≤ i ∧ i ≤ 3) (h6 : (0 ≤ a ∧ a ≤ 63) ∧ (0 ≤ b ∧ b ≤ 63)) (h : ¬ ((0 ≤ c ∧ c ≤ 15) ∧ (0 ≤ d ∧ d ≤ 15))) : verdict ids one oth a b c d = Str.ofString "a bit place is from 0 to 15" := by unfold verdict; rw [if_pos h1, if_pos h2, if_pos h3, if_pos h4, if_pos h5, if_pos h6, if_neg h]
theorem vd0 (h1 : 1 ≤ ids.length ∧ ids.length ≤ 4) (h2 : one.length = ids.length ∧ oth.length = ids.length) (h3 : ids.Nodup) (h4 : ∀ i ∈ ids, 0 ≤ i ∧ i ≤ 255) (h5 : ∀ i ∈ one ++ oth, 0 ≤ i ∧ i ≤ 3) (h6 : (0 ≤ a ∧ a ≤ 63) ∧ (0 ≤ b ∧ b ≤ 63)) (h7 : (0 ≤ c ∧ c ≤ 15) ∧ (0 ≤ d ∧ d ≤ 15)) : verdict ids one oth a b c d = Str.ofString "" := by unfold verdict; rw [if_pos h1, if_pos h2, if_pos h3, if_pos h4, if_pos h5, if_pos h6, if_pos h7]
theorem bad_mem {P : Int → Prop} {l pre post : List Int} {n : Int} (he : l = pre ++ n :: post) (h : ¬ P n) : ¬ ∀ i ∈ l, P i := fun q => h (q n (by rw [he]; simp))
end
theorem news_drop {g h : Heap} {L : Addr} {a b c : Addr × Obj} {news : List (Addr × Obj)} (N : News g L h (a :: b :: c :: news)) : News g L h news := fun p hp => N p (.tail _ (.tail _ (.tail _ hp)))
theorem nn_of {g h : Heap} {L : Addr} {led news : List (Addr × Obj)} (N : News g L h led) (hs : ∀ p ∈ news, p ∈ led) : ∀ p ∈ news, h.get? p.1 = some p.2 ∧ p.1 ≠ L := fun p hp => ⟨(N p (hs p hp)).1, (N p (hs p hp)).2.1⟩
theorem ne_of_beqF {a b : Int} (h : (a == b) = false) : ¬ a = b := by simpa using h
/-- a scan's head as ScanHead.__init__ leaves its dict -/
abbrev headDict (w : World) (k1 k2 k3 k4 k5 k6 k7 : Tok) (li l1 l2 : Addr) (a b c d : Int) (ta tb tc td : Tok) : Obj := dictOf
  [⟨PyData.keyHash w.params (Str.ofString "idents"), .str (Str.ofString "idents") k1, .ref li⟩, ⟨PyData.keyHash w.params (Str.ofString "dc_slots"), .str (Str.ofString "dc_slots") k2, .ref l1⟩,
   ⟨PyData.keyHash w.params (Str.ofString "ac_slots"), .str (Str.ofString "ac_slots") k3, .ref l2⟩, ⟨PyData.keyHash w.params (Str.ofString "start"), .str (Str.ofString "start") k4, .int a ta⟩,
   ⟨PyData.keyHash w.params (Str.ofString "end"), .str (Str.ofString "end") k5, .int b tb⟩, ⟨PyData.keyHash w.params (Str.ofString "high"), .str (Str.ofString "high") k6, .int c tc⟩,
   ⟨PyData.keyHash w.params (Str.ofString "low"), .str (Str.ofString "low") k7, .int d td⟩] 7
section
variable {prog : Program} {w : World} {A : Around} {E : Value → Shared → Prop} {s : Shared} {env : Env} {h₀ : Heap} {x : Str} {body : List Stmt} {Q : Flow → Shared → Prop}
theorem for_list {l : Addr} {vs : List Value} {ns : List Int} {nn : Nat} {m₀ : Str → Option Value} {news : List (Addr × Obj)} (P : List Int → Prop)
    (hh : A.handled = none) (hl : (l, listOf vs.toArray nn) ∈ news) (hi : IntsAre vs ns) (F : Fr h₀ env.locals s.heap m₀) (N : News h₀ env.locals s.heap news) (hp : P [])
    (turn : ∀ (pre post : List Int) (n : Int) (t : Tok) (h : Heap) (tk : Nat) (own : List (Addr × Obj)), ns = pre ++ n :: post → P pre →
      Fr h₀ env.locals h (fun y => if y = x then some (.int n t) else m₀ y) → News h₀ env.locals h (news ++ own) →
      wpAny (model prog w) A (execs body env) (InvPostN h₀ env.locals (KstS (fun _ : Unit => news) (fun _ => []) (fun _ => True) x [] m₀ (fun pre _ => P pre) (pre ++ [n])) own (news.map (·.1)) { s with heap := h, toks := tk } Q) E { s with heap := h, toks := tk })
    (done : ∀ (u : Str → Option Value) (h : Heap) (tk : Nat), P ns → Fr h₀ env.locals h (fun y => if y = x then u y else m₀ y) → News h₀ env.locals h news → Q .next { s with heap := h, toks := tk }) :
    wpAny (model prog w) A (pyIter (.ref l)) (fun it s₂ => LoopAtV prog w A h₀ env x body Q E it s₂) E s :=
  kst_listL (fun _ : Unit => news) (fun _ => []) (fun _ => True) [] (fun pre _ => P pre) () hh (fun _ => hl) hi F N trivial (List.forall_mem_nil _) hp
    (fun _ pre post n t u h tk own e _ _ _ hp F N => turn pre post n t h tk own e hp F N) fun _ u h tk _ hp F N => done u h tk hp F N
end
section
local macro_rules | `(tactic| walk_at "pyIter ref") => `(tactic| k_extra "loop")
local macro_rules | `(tactic| walk_at "call builtin:len") => `(tactic| (k_here; k_dflt (refine' len_led ?N ?m ?i ?l ?_; (case N => k_asm); (case m => k_mem); (case i => assumption); (case l => assumption); k_whole)))
local macro_rules | `(tactic| walk_at "call ref") => `(tactic| (k_here; (with_reducible show wpAny _ _ (call (Value.ref 74) _) _ _ _); k_dflt (refine' want_ok ?B ?F ?X ?N ?T ?hk ?hd ?_ ?_; (case B => k_asm); (case F => k_asm); (case X => k_asm); (case N => k_asm); (case T => k_asm); (case hk => exact rfl); (case hd => ktr_room)); rotate_left; (intro hb' e' h' tk' T'; k_unfold; (try dsimp only); (first | replace hb' := of_decide_eq_false hb' | replace hb' := ne_of_beqF hb')); rotate_left; (intro hb' h' tk' F' N'; (first | replace hb' := of_decide_eq_true hb' | replace hb' := eq_of_beq hb'); first | (exfalso; omega) | skip)))
local macro_rules | `(tactic| walk_at "call ref") => `(tactic| (k_here; (with_reducible show wpAny _ _ (call (Value.ref 81) _) _ _ _); k_dflt (refine' unlike_ok ?B ?F ?X ?N ?T ?hk ?hd ?hm ?hi ?hl ?_; (case B => k_asm); (case F => k_asm); (case X => k_asm); (case N => k_asm); (case T => k_asm); (case hk => exact rfl); (case hd => ktr_room); (case hm => k_mem); (case hi => assumption); (case hl => assumption)); intro h' tk' F' N'))
local macro_rules | `(tactic| walk_at "call type:list") => `(tactic| (k_here; (with_reducible show wpAny _ _ (call (Value.type _) [Value.ref _]) _ _ _); k_dflt (refine' list_copyK ?F ?N ?l ?_ ?z; (case F => k_asm); (case N => k_asm); (case l => exact PySem.IsL.isList (News.get (by k_asm) (by k_mem))); (case z => exact kmk_sz (by assumption) (by rw [sizeLine_eq]; omega)); k_whole); intro D' c' h' F' N' l1))
theorem mem1 {α : Type} {a b : α} {l : List α} (h : a ∈ l) : a ∈ b :: l := .tail _ h
theorem mem2 {α : Type} {a b c : α} {l : List α} (h : a ∈ l) : a ∈ b :: c :: l := .tail _ (.tail _ h)
theorem mem3 {α : Type} {a b c d : α} {l : List α} (h : a ∈ l) : a ∈ b :: c :: d :: l := .tail _ (.tail _ (.tail _ h))
local macro_rules | `(tactic| k_mem) => `(tactic| first | assumption | (refine' mem1 ?_; assumption) | (refine' mem2 ?_; assumption) | (refine' mem3 ?_; assumption))
local macro_rules | `(tactic| walk_at "exec For") => `(tactic| (k_here; (with_reducible show wpAny _ _ (exec (Stmt.For (Expr.Name _ _) (Expr.BinOp _ _ _ _) _ [] _) _) _ _ _); (rename Fr _ _ _ _ => lF'); (with_unfolding_all refine' For_invVF lF' ?k1 ?k2 ?_; (case k1 => exact rfl); (case k2 => exact rfl); k_whole)))
theorem check_ok {w : World} {mean : ExcName → Option Value} {mg mb : Str → Option Value} {dp un : Nat} {gd : Option (List Code)} {cn : Str} {cs : Scope} {a : Addr} {ccd : Value} {cl : List (Str × Addr)} {outer : List Env} {A₀ : Around} {base h₀ : Heap} {L : Addr} {m : Str → Option Value} {news : List (Addr × Obj)} {s : Shared}
    {x dx li l1 l2 : Addr} {vi v1 v2 : List Value} {ids one oth : List Int} {n0 n1 n2 : Nat} {k1 k2 k3 k4 k5 k6 k7 ta tb tc td : Tok} {p q u v : Int} {Q E : Value → Shared → Prop}
    (B : Below A₀ base outer h₀) (F : Fr h₀ L s.heap m) (X : (hd.heap_39 w.params).In h₀) (N : News h₀ L s.heap news)
    (T : Top hd.view_39 (looseW hd.view_39 []) mean mg mb h₀) (hk : cs.kind = .function) (hdp : dp + 12 < recursionLimit)
    (hx : (x, instObj 63 dx) ∈ news) (hdx : (dx, headDict w k1 k2 k3 k4 k5 k6 k7 li l1 l2 p q u v ta tb tc td) ∈ news)
    (hli : (li, listOf vi.toArray n0) ∈ news) (hl1 : (l1, listOf v1.toArray n1) ∈ news) (hl2 : (l2, listOf v2.toArray n2) ∈ news)
    (ii : IntsAre vi ids) (i1 : IntsAre v1 one) (i2 : IntsAre v2 oth) (z0 : ids.length ≤ 1000) (z1 : one.length ≤ 1000) (z2 : oth.length ≤ 1000)
    (hret : verdict ids one oth p q u v = Str.ofString "" → ∀ (h' : Heap) (tk' : Nat), Fr h₀ L h' m → News h₀ L h' news → Q .none { s with heap := h', toks := tk' })
    (herr : ∀ msg, verdict ids one oth p q u v = msg → msg ≠ Str.ofString "" → ∀ (e : Addr) (h' : Heap) (tk' : Nat), Thrown w s.heap (envX cn cs L a ccd cl :: outer) msg e h' → E (.ref e) { s with heap := h', toks := tk' }) :
    wpAny (model PySem.Challenge.rw_xm0807_01.row.prog w) (ktrTop dp un gd cn cs L a ccd cl outer) (call (.ref 88) [.ref x]) Q E s := by
  k_with_none
  k_with "loop" => (k_here; k_dflt (refine' for_list (vs := vi) (ns := ids) (fun pre => ∀ i ∈ pre, 0 ≤ i ∧ i ≤ 255) ?lh ?lm ii ?lF ?lN ?lp ?_ ?_; (case lh => rfl); (case lF => k_asm); (case lN => k_asm); (case lm => k_mem); (case lp => exact List.forall_mem_nil _)); (intro pre9 post9 n9 t9 h9 tk9 own9 he9 hp9 F9 N9; (try dsimp only); (try k_fold)); rotate_left; (intro u9 h9 tk9 hp9 F9 N9; (try dsimp only); (try k_fold)); rotate_left)
  k_with "loop" => (k_here; k_dflt (refine' for_list (ns := one ++ oth) (fun pre => ∀ i ∈ pre, 0 ≤ i ∧ i ≤ 3) ?lh ?lm ?li ?lF ?lN ?lp ?_ ?_; (case lh => rfl); (case lF => k_asm); (case lN => k_asm); (case li => assumption); (case lm => k_mem); (case lp => exact List.forall_mem_nil _)); (intro pre9 post9 n9 t9 h9 tk9 own9 he9 hp9 F9 N9; (try dsimp only); (try k_fold)); rotate_left; (intro u9 h9 tk9 hp9 F9 N9; (try dsimp only); (try k_fold)); rotate_left)
  refine wpAny_call ?_
  refine' enter (binds := [(Str.ofString "head", .ref x)]) B F X N T rfl rfl hk ?k6 ?k7 ?k8 ?k9 ?kB ?_ ?c2 ?c3 ?c4 ?c5
  case k6 => k_is
  case k7 => k_is
  case k8 => ktr_room
  case k9 => exact BindsTo.of_eq rfl
  case c5 => decide
  case kB => exact locs rfl
  case c2 => exact rfl
  case c3 => exact rfl
  case c4 => exact rfl
  intro g' L' h' W' FG' F' N' B' X' T'
  (try dsimp only)
  (try k_lift B')
  (try k_fold)
  k_steps
  all_goals first
    | exact hret (vd0 (by omega) (by omega) (by assumption) (by assumption) (by assumption) (by omega) (by omega)) _ _ (by k_asm) (news_drop (by k_asm))
    | (refine' throw_on (L := L) (L' := L') N W' ?fr rfl ?F ?Nn ?T ?h
       case T => assumption
       case fr => exact Around.frames_deeper B'.stack
       case F => k_asm
       case Nn => exact nn_of (by k_asm) (by intro p hp; first | exact hp | exact List.mem_append_left _ hp | exact .tail _ (.tail _ (.tail _ hp)) | exact List.mem_append_left _ (.tail _ (.tail _ (.tail _ hp))))
       case h =>
         intro h8' t8'
         first
         | exact herr _ (vd1 (by omega)) (by decide +kernel) _ _ _ t8'
         | exact herr _ (vd2 (by omega) (by omega)) (by decide +kernel) _ _ _ t8'
         | exact herr _ (vd3 (by omega) (by omega) (by assumption)) (by decide +kernel) _ _ _ t8'
         | exact herr _ (vd4 (by omega) (by omega) (by assumption) (bad_mem (by assumption) (by omega))) (by decide +kernel) _ _ _ t8'
         | exact herr _ (vd5 (by omega) (by omega) (by assumption) (by assumption) (bad_mem (by assumption) (by omega))) (by decide +kernel) _ _ _ t8'
         | exact herr _ (vd6 (by omega) (by omega) (by assumption) (by assumption) (by assumption) (by omega)) (by decide +kernel) _ _ _ t8'
         | exact herr _ (vd7 (by omega) (by omega) (by assumption) (by assumption) (by assumption) (by omega) (by omega)) (by decide +kernel) _ _ _ t8')
    | skip
end
end Mine
-- Told1
namespace Mine
section
theorem told_catch {w : World} {A : Around} {E : Value → Shared → Prop} {s' : Shared} {hc h₀ h₁ : Heap} {envL : Env} {L Lt a e : Addr} {m mt mg mb : Str → Option Value} {name : Str} {scope : Scope} {cd : Value} {news : List (Addr × Obj)} {msg : Str} {Q : Flow → Shared → Prop} {np p1 p2 p3 pos : Pos}
    (X : (hd.heap_39 w.params).In h₀) (T : TopRead hd.view_39 (looseW hd.view_39 []) mg mb h₀) (FL : Fr h₀ L hc m) (NL : News h₀ L hc news) (hfL : envL.frame = some L)
    (hfr : A.frames = some (envOf name scope Lt a cd :: [envL])) (kp : ∀ b o, hc.get? b = some o → h₁.get? b = some o) (hLt : ∀ b o, hc.get? b = some o → b ≠ Lt) (Ft : h₁.Ns Lt mt) (habove : h₀.objs.size ≤ Lt)
    (Th : Thrown w h₁ (envOf name scope Lt a cd :: [envL]) msg e s'.heap)
    (hQ : ∀ (t : Tok) (h' : Heap) (tk' : Nat), Fr h₀ L h' m → News h₀ L h' news → Q (.ret (.str msg t)) { s' with heap := h', toks := tk' })
    (hk : scope.kind = .function) (hlo : (envOf name scope Lt a cd).kindOf (Str.ofString "fault") = some .local) (hx : (envOf name scope Lt a cd).kindOf (Str.ofString "SegmentError") = some .globalImplicit) :
    wpAny (model PySem.Challenge.rw_xm0807_01.row.prog w) A (noteFrame (.ref e) (envOf name scope Lt a cd)) (fun _ s₂ => wpAny (model PySem.Challenge.rw_xm0807_01.row.prog w) A (setFlight (.ref e) none) (fun _ s₃ =>
      wpAny (model PySem.Challenge.rw_xm0807_01.row.prog w) A (handleBy (.ref e) (envOf name scope Lt a cd) [.ExceptHandler (some (.Name (Str.ofString "SegmentError") np)) (some (Str.ofString "fault"))
        [.Return (some (.Attribute (.Name (Str.ofString "fault") p1) (Str.ofString "message") p2)) p3] pos]) Q E s₃) E s₂) E s' := by
  obtain ⟨B, d, tm, tk, kB, hd, fl, u⟩ := Th
  have offs : ∀ b o, hc.get? b = some o → b ≠ L → B.get? b = some o := fun b o hb hn => kB b o (kp b o hb) fun hm => by
    obtain ⟨en, he, hf⟩ := List.mem_filterMap.mp hm
    rcases List.mem_cons.mp he with rfl | he
    · exact hLt b o hb (Option.some.inj hf).symm
    · rw [List.mem_singleton.mp he, hfL] at hf
      exact hn (Option.some.inj hf).symm
  have base : ∀ b o, h₀.get? b = some o → B.get? b = some o := fun b o hb => offs b o (FL.keep b o hb) (Nat.ne_of_lt (Nat.lt_of_lt_of_le (Heap.lt_size hb) FL.above))
  refine noteD2 hfr rfl fl fun h2 f2 u2 => ?_
  refine landD f2 fun h3 f3 u3 => ?_
  have F3 : Fr h₀ Lt h3 mt := ⟨(u.trans (u2.trans u3)).ns Ft, fun b o hb => f3.1 b o (base b o hb), habove⟩
  refine wpAny_handleBy_cons (codeAny_handlers_test (name_K F3 X T (by k_is) ?_ hk hx (by decide))) (by intro q; cases q)
  obtain ⟨nm, q, sn, k0, k1, k2, k3, k5, hC⟩ := seg_cls (X.keeps F3.keep)
  obtain ⟨oe, vs, T1, oT, ts, he, hcl, hdt, h1, hnT, hTe, hT, hdT, h3'⟩ := f3.2.2.2
  refine wpAny_excMatches_sub_self hC he hcl.1 (by decide +kernel) (codeAny_handlers_suite_as ?_)
  refine landD f3 fun h6 f6 u6 => ?_
  have F6 : Fr h₀ Lt h6 mt := ⟨(u.trans (u2.trans (u3.trans u6))).ns Ft, fun b o hb => f6.1 b o (base b o hb), habove⟩
  obtain ⟨oe6, vs6, T6, oT6, ts6, he6, hcl6, hdt6, h16, hnT6, hTe6, hT6, hdT6, h36⟩ := f6.2.2.2
  have hd6 := f6.1 d _ hd
  obtain ⟨_, ⟨L', o', hf', hn', ho', hnf'⟩, _⟩ := f6.2.2.1
  have e1 : Lt = L' := Option.some.inj hf'
  subst e1
  have hed : e ≠ Lt := fun z => by rw [z, ho'] at he6; cases he6; exact hnf' _ hdt6
  have hdd : d ≠ Lt := fun z => by rw [z, hn'] at hd; cases hd
  refine wpAny_storeName_local hlo F6.ns (fun h7 hn7 hs7 => ?_) (by show (scope.kind == .class || (scope.kind == .module && Lt != mainGlobals)) = false; rw [hk]; rfl)
  have F7 := F6.set hn7 hs7
  have he7 := (hs7.2 e hed).trans he6
  have hd7 := (hs7.2 d hdd).trans hd6
  refine wpAny_execs_cons (wpAny_Return_some (Attribute_name (ld F7 (by rfl) (msg_get (X.keeps F7.keep) he7 hcl6.1 (by unfold notCls; rw [hdt6]) hcl6.2 hd7 (by rfl) (by rfl) ?_) hk hlo (by decide))))
  refine wpAny_nameGoes hlo F7.ns (by show (scope.kind == .class || (scope.kind == .module && Lt != mainGlobals)) = false; rw [hk]; rfl) fun h8 m8 hn8 hs8 => ?_
  have keep : ∀ b o, hc.get? b = some o → b ≠ L → h8.get? b = some o := fun b o hb hn => by
    have hbl := hLt b o hb
    rw [hs8.2 b hbl, hs7.2 b hbl]
    exact f6.1 b o (offs b o hb hn)
  refine hQ tm h8 _ ⟨?_, fun b o hb => keep b o (FL.keep b o hb) (Nat.ne_of_lt (Nat.lt_of_lt_of_le (Heap.lt_size hb) FL.above)), FL.above⟩ fun p hp => ⟨keep _ _ (NL p hp).1 (NL p hp).2.1, (NL p hp).2⟩
  have hLL : L ≠ Lt := by
    obtain ⟨oL, es, ep, hL, r⟩ := FL.ns
    exact hLt L oL hL
  obtain ⟨oL, es, ep, hL, r⟩ := FL.ns
  have n6 : h6.Ns L m := (u.trans (u2.trans (u3.trans u6))).ns ⟨oL, es, ep, kp L oL hL, r⟩
  obtain ⟨o6, es6, ep6, hL6, r6⟩ := n6
  exact ⟨o6, es6, ep6, by rw [hs8.2 L hLL, hs7.2 L hLL]; exact hL6, r6⟩
end
end Mine
-- Told2
namespace Mine
/-- the end of a def that has caught: as ever, or by the caller's own word -/
def LeaveT (h₀ : Heap) (L : Addr) (m : Str → Option Value) (g : Heap) (R : Result → Shared → Prop) (v : Value) (s' : Shared) : Prop := LeaveK h₀ L m g R v s' ∨ R (.ok (.ret v)) s'
section
variable {prog : Program} {w : World} {A₀ A : Around} {s : Shared} {K : Frag} {base h₀ : Heap} {outer : List Env} {L : Addr} {m mg mb : Str → Option Value} {env : Env} {news : List (Addr × Obj)} {p : Program} {loose : List Str} {mean : ExcName → Option Value}
  {R : Result → Shared → Prop} {name qual : Str} {params : Arguments} {body : List Stmt} {scope : Scope} {dV kV doc pm cdv ct oc : Value} {an od : Option Addr} {osl : Array (Option Value)} {f : Addr} {args : Args} {binds : List (Str × Value)}
theorem enterT (B : Below A₀ base outer h₀) (F : Fr h₀ L s.heap m) (X₀ : K.In h₀) (N : News h₀ L s.heap news) (T : Top p loose mean mg mb h₀) (hA : A.frames = some (env :: outer)) (hf : env.frame = some L) (hke : env.scope.kind = .function)
    (ho : K.lookup f = some ⟨oc, od, .func (fnOf name qual params body scope dV kV doc pm an cdv ct), osl⟩) (hcd : codeIn K cdv qual = true) (hroom : A.depth < recursionLimit)
    (hbind : BindsTo s (fnOf name qual params body scope dV kV doc pm an cdv ct) args binds) (hloc : ∀ y ∈ binds, scope.names.lookup y.1 = some .local)
    (h : ∀ g L' h₁, Whole s.heap g news → Fr h₀ L g m → Fr g L' h₁ (fun y => binds.reverse.lookup y) → News g L' h₁ news → Below A base (env :: outer) g → K.In g → Top p loose mean mg mb g → (∀ b o, s.heap.get? b = some o → b ≠ L') →
      wpAny (model prog w) (A.deeper (envOf qual scope L' f cdv)) (execs body (envOf qual scope L' f cdv))
        (fun fl s' => LeaveT h₀ L m g R (match fl with | .ret v => v | _ => .none) s')
        (fun e s' => wpAny (model prog w) (A.deeper (envOf qual scope L' f cdv)) (leaving (envOf qual scope L' f cdv) e) (fun _ s'' => R (.error e) s'') (fun e' s'' => R (.error e') s'') s')
        { s with heap := h₁, toks := s.toks + binds.length })
    (hco : scope.isCoroutine = false) (hgen : scope.isGenerator = false) (hk : scope.kind = .function) (hcell : ∀ x ∈ scope.names, x.2 ≠ .cell) : codeAny (model prog w) A (.call (.ref f) args) R s := by
  obtain ⟨FG, BG, st, lv⟩ := groundX (R := R) B F N hA hf hke
  refine codeAny_call_def (fd := fnOf name qual params body scope dV kV doc pm an cdv ct) (body := body) (binds := binds) hroom ((X₀.keeps F.keep) _ _ ho) rfl (T.nolimit.keeps F.keep) (codeRec_of (X₀.keeps F.keep) hcd) rfl hbind hcell hloc (fun h₁ hns hk₁ => ?_) hco hgen hk
  exact wpAny_mono (h _ s.heap.objs.size h₁ (fun b o e n => hideAll_get _ e n) FG ⟨hns, fun b o e => hk₁ b o (of_hideAll _ e), Nat.le_of_eq (hideAll_size _ _)⟩
    (fun p hp => ⟨hk₁ _ _ (N p hp).1, Nat.ne_of_lt (Heap.lt_size (N p hp).1), hideAll_none _ (List.mem_map_of_mem hp)⟩) BG (X₀.keeps st) (T.keeps st) fun b o e => Nat.ne_of_lt (Heap.lt_size e)) (fun fl s' hl => hl.elim (lv _ _) id) fun _ _ y => y
theorem tup_K {x : Addr} {l : List Value} {nt : Nat} {j : Int} {t : Tok} {vs : Value} {Q E : Value → Shared → Prop} (N : News h₀ L s.heap news) (hm : (x, { cls := .type "tuple", data := .seq l.toArray nt }) ∈ news) : IsTup s.heap x l.toArray := ⟨_, (N _ hm).1, rfl, nt, rfl⟩
end
theorem news_drop2 {g h : Heap} {L : Addr} {a b : Addr × Obj} {news : List (Addr × Obj)} (N : News g L h (a :: b :: news)) : News g L h news := fun p hp => N p (.tail _ (.tail _ hp))
section
local macro_rules | `(tactic| k_room) => `(tactic| ((try simp only [depth_under_make, depth_under_kw, depth_in1, depth_deeper, depth_caller]); (with_reducible show _ + 1 + 1 < recursionLimit); omega))
local macro_rules | `(tactic| walk_at "LeaveT") => `(tactic| refine Or.inl ?_)
local macro_rules | `(tactic| walk_at "subscriptTail") => `(tactic| (k_here; (with_reducible show wpAny _ _ (subscriptTail _ _ (Value.ref _) (Value.int _ _)) _ _ _); k_dflt (refine' item_litK (PySem.IsL.isList (News.get ?N ?m)) ?k2 ?k3 ?k4 ?_ ?k6; (case N => k_asm); (case m => k_mem); (case k2 => decide); (case k3 => decide); (case k4 => rfl); (case k6 => with_unfolding_all rfl); k_whole)))
local macro_rules | `(tactic| k_mem) => `(tactic| first | assumption | (refine' mem1 ?_; assumption) | (refine' mem2 ?_; assumption) | (refine' mem3 ?_; assumption))
local macro_rules | `(tactic| walk_at "call ref") => `(tactic| (k_here; (with_reducible show wpAny _ _ (call (Value.ref 88) _) _ _ _); k_dflt (refine' check_ok ?B ?F ?X ?N ?T ?hk ?hd ?hx ?hdx ?h1 ?h2 ?h3 ?i1 ?i2 ?i3 ?z1 ?z2 ?z3 ?_ ?_; (case B => k_asm); (case F => k_asm); (case X => k_asm); (case N => k_asm); (case T => k_asm); (case hk => exact rfl); (case hd => ktr_room); (case hx => exact .head _); (case hdx => exact .tail _ (.head _)); (case h1 => k_mem); (case h2 => k_mem); (case h3 => k_mem); (case i1 => assumption); (case i2 => assumption); (case i3 => assumption); (case z1 => assumption); (case z2 => assumption); (case z3 => assumption)); rotate_left; (intro msg' hv' hn' e' h' tk' T'; (try k_unfold); (try dsimp only)); rotate_left; (intro hv' h' tk' F' N')))
theorem told_ok {w : World} {mean : ExcName → Option Value} {mg mb : Str → Option Value} {dp un : Nat} {gd : Option (List Code)} {cn : Str} {cs : Scope} {a : Addr} {ccd : Value} {cl : List (Str × Addr)} {A₀ : Around} {base h₀ : Heap} {L : Addr} {m : Str → Option Value} {news : List (Addr × Obj)} {s : Shared}
    {li tp l1 l2 ln : Addr} {vi v1 v2 vn : List Value} {ids one oth : List Int} {n0 n1 n2 nn nt : Nat} {p q u v : Int} {Q E : Value → Shared → Prop}
    (B : Below A₀ base [] h₀) (F : Fr h₀ L s.heap m) (X : (hd.heap_39 w.params).In h₀) (N : News h₀ L s.heap news)
    (T : Top hd.view_39 (looseW hd.view_39 []) mean mg mb h₀) (hk : cs.kind = .function) (hdp : dp + 16 < recursionLimit)
    (hli : (li, listOf vi.toArray n0) ∈ news) (htp : (tp, { cls := .type "tuple", data := .seq #[.ref l1, .ref l2] nt }) ∈ news) (hl1 : (l1, listOf v1.toArray n1) ∈ news) (hl2 : (l2, listOf v2.toArray n2) ∈ news) (hln : (ln, listOf vn.toArray nn) ∈ news)
    (ii : IntsAre vi ids) (i1 : IntsAre v1 one) (i2 : IntsAre v2 oth) (iN : IntsAre vn [p, q, u, v]) (z0 : ids.length ≤ 1000) (z1 : one.length ≤ 1000) (z2 : oth.length ≤ 1000)
    (hret : ∀ (t : Tok) (h' : Heap) (tk' : Nat), Fr h₀ L h' m → News h₀ L h' news → Q (.str (verdict ids one oth p q u v) t) { s with heap := h', toks := tk' }) :
    wpAny (model PySem.Challenge.rw_xm0807_01.row.prog w) (ktrTop dp un gd cn cs L a ccd cl []) (call (.ref 116) [.ref li, .ref tp, .ref ln]) Q E s := by
  rcases iN with _ | ⟨_, ta, iN⟩
  rcases iN with _ | ⟨_, tb, iN⟩
  rcases iN with _ | ⟨_, tc, iN⟩
  rcases iN with _ | ⟨_, td, iN⟩
  cases iN
  refine wpAny_call ?_
  refine' enterT (binds := [(Str.ofString "idents", .ref li), (Str.ofString "slots", .ref tp), (Str.ofString "numbers", .ref ln)]) B F X N T rfl rfl hk ?k6 ?k7 ?k8 ?k9 ?kB ?_ ?c2 ?c3 ?c4 ?c5
  case k6 => k_is
  case k7 => k_is
  case k8 => ktr_room
  case k9 => exact BindsTo.of_eq rfl
  case c5 => decide
  case kB => exact locs rfl
  case c2 => exact rfl
  case c3 => exact rfl
  case c4 => exact rfl
  intro g' L' h' W' FG' F' N' B' X' T' hne'
  (try dsimp only)
  (try k_lift B')
  (try k_fold)
  k_steps
  · have hv := show verdict ids one oth p q u v = Str.ofString "" from by assumption
    rw [hv] at hret
    exact hret _ _ _ (by k_asm) (news_drop2 (by k_asm))
  · rename (verdict ids one oth p q u v = _) => hv
    rename (News g' L' _ ((_, instObj 63 _) :: _)) => kN
    have kF := show Fr g' L' _ _ from by k_asm
    refine told_catch (L := L) (Lt := L') X (by k_asm) F N rfl rfl (mem_or N W' kF.keep (L := L) (L' := L') fun p hp => (kN p (.tail _ (.tail _ hp))).1) hne' kF.ns ?_ (by assumption) ?_ rfl ?_ ?_
    · obtain ⟨oL, es, ep, hL, r⟩ := FG'.ns
      exact Nat.le_trans FG'.above (Nat.le_trans (Nat.le_of_lt (Heap.lt_size hL)) kF.above)
    · intro t h9 tk9 F9 N9
      subst hv
      exact Or.inr (hret _ _ _ F9 N9)
    · rfl
    · rfl
end
end Mine
-- One1
namespace Mine
local macro_rules | `(tactic| walk_at "none such") => `(tactic| fail)
/-- what the law draws from: a list of two ints -/
abbrev pairObj (x y : Int) (tx ty : Tok) (n : Nat) : Obj := listOf [.int x tx, .int y ty].toArray n
theorem upd_rest {src : Addr} {o : Obj} {news : List (Addr × Obj)} {g : Obj → List (Addr × Obj)} (U : UpdF src o news g) :
    ∃ rest, (∀ p ∈ rest, p.1 ≠ src) ∧ (∀ p ∈ (src, o) :: rest, p ∈ news) ∧ (∀ p ∈ news, p.1 ≠ src → p ∈ rest) ∧ ∀ o', ∀ p ∈ g o', p ∈ (src, o') :: rest := by
  obtain ⟨pre, post, e, hg, h1, h2⟩ := U.split
  refine ⟨pre ++ post, ?_, ?_, ?_, ?_⟩
  · intro p hp
    rcases List.mem_append.mp hp with hp | hp
    · exact h1 p hp
    · exact h2 p hp
  · intro p hp
    rw [e]
    rcases List.mem_cons.mp hp with rfl | hp
    · exact List.mem_append_right _ (.head _)
    · rcases List.mem_append.mp hp with hp | hp
      · exact List.mem_append_left _ hp
      · exact List.mem_append_right _ (.tail _ hp)
  · intro p hp hn
    rw [e] at hp
    rcases List.mem_append.mp hp with hp | hp
    · exact List.mem_append_left _ hp
    · rcases List.mem_cons.mp hp with rfl | hp
      · exact absurd rfl hn
      · exact List.mem_append_right _ hp
  · intro o' p hp
    rw [hg o'] at hp
    rcases List.mem_append.mp hp with hp | hp
    · exact .tail _ (List.mem_append_left _ hp)
    · rcases List.mem_cons.mp hp with rfl | hp
      · exact .head _
      · exact .tail _ (List.mem_append_right _ hp)
theorem item_at {vs : List Value} {r : Int} (h0 : 0 ≤ r) (h1 : r < vs.length) : ∃ v, vs[r.toNat]? = some v ∧ v ∈ vs := by
  have h : r.toNat < vs.length := by omega
  exact ⟨vs[r.toNat], List.getElem?_eq_getElem h, List.getElem_mem h⟩
section
variable {prog : Program} {w : World} {A : Around} {E : Value → Shared → Prop} {s : Shared} {h₀ : Heap} {L : Addr} {news : List (Addr × Obj)} {l : Addr} {vs : List Value} {n : Nat}
theorem len_any {Q : Value → Shared → Prop} (N : News h₀ L s.heap news) (hm : (l, listOf vs.toArray n) ∈ news) (hl : vs.length ≤ 1000) (h : Q (.int vs.length (s.toks + 1)) { s with toks := s.toks + 1 + 1 }) :
    wpAny (model prog w) A (call (.builtin "len") [.ref l]) Q E s := by
  have hl' : s.heap.IsList l vs.toArray := PySem.IsL.isList (n := n) (N _ hm).1
  have e : (List.toArray vs).size = vs.length := List.size_toArray
  refine call_len_list hl' (by rw [e]; omega) ?_
  rw [e]; exact h
end
section
variable {w : World} {mean : ExcName → Option Value} {mg mb : Str → Option Value} {dp un : Nat} {gd : Option (List Code)} {cn : Str} {cs : Scope} {a : Addr} {ccd : Value} {cl : List (Str × Addr)} {outer : List Env} {A₀ : Around} {base h₀ : Heap} {L : Addr} {m : Str → Option Value} {news : List (Addr × Obj)} {s : Shared}
    {src lt : Addr} {x y top : Int} {tx ty tt : Tok} {n n' : Nat} {vs : List Value} {g : Obj → List (Addr × Obj)} {Q E : Value → Shared → Prop}
theorem take_okU
    (B : Below A₀ base outer h₀) (F : Fr h₀ L s.heap m) (X : (hd.heap_39 w.params).In h₀) (N : News h₀ L s.heap news)
    (T : Top hd.view_39 (looseW hd.view_39 []) mean mg mb h₀) (hk : cs.kind = .function) (U : UpdF src (pairObj x y tx ty n) news g)
    (ht : 0 < top) (ht6 : top ≤ 64) (hdp : dp + 1 < recursionLimit)
    (hret : ∀ (r x' y' : Int) (t tx' ty' : Tok) (h' : Heap) (tk' : Nat), 0 ≤ r → r < top → Fr h₀ L h' m → News h₀ L h' (g (pairObj x' y' tx' ty' n)) → Q (.int r t) { s with heap := h', toks := tk' }) :
    wpAny (model PySem.Challenge.rw_xm0807_01.row.prog w) (ktrTop dp un gd cn cs L a ccd cl outer) (call (.ref 102) [.ref src, .int top tt]) Q E s := by
  obtain ⟨rest, h1, h2, h3, h4⟩ := upd_rest U
  exact take_ok B F X (fun p hp => N p (h2 p hp)) T hk h1 ht ht6 hdp fun r x' y' t tx' ty' h' tk' a b F' N' => hret r x' y' t tx' ty' h' tk' a b F' fun p hp => N' p (h4 _ p hp)
local macro_rules | `(tactic| walk_at "call builtin:len") => `(tactic| (k_here; k_dflt (refine' len_any ?N ?m ?l ?_; (case N => k_asm); (case m => k_mem); (case l => omega); k_whole)))
local macro_rules | `(tactic| k_mem) => `(tactic| first | assumption | (refine' mem1 ?_; assumption) | (refine' mem2 ?_; assumption) | (refine' mem3 ?_; assumption))
local macro_rules | `(tactic| walk_at "call ref") => `(tactic| (k_here; (with_reducible show wpAny _ _ (call (Value.ref 102) _) _ _ _); k_dflt (refine' take_ok ?B ?F ?X ?N ?T ?hk ?hne ?ht ?ht6 ?hd ?_; (case B => k_asm); (case F => k_asm); (case X => k_asm); (case N => k_asm); (case T => k_asm); (case hk => exact rfl); (case hne => assumption); (case ht => omega); (case ht6 => omega); (case hd => ktr_room)); intro r' x' y' t' tx' ty' h' tk' ha' hb' F' N'; obtain ⟨v', hv', hm'⟩ := item_at ha' hb'))
local macro_rules | `(tactic| walk_at "subscriptTail") => `(tactic| (k_here; (with_reducible show wpAny _ _ (subscriptTail _ _ (Value.ref _) (Value.int _ _)) _ _ _); k_dflt (refine' item_litK (PySem.IsL.isList (News.get ?N ?m)) ?k2 ?k3 ?k4 ?_ ?k6; (case N => k_asm); (case m => k_mem); (case k2 => assumption); (case k3 => omega); (case k4 => assumption); (case k6 => with_unfolding_all rfl); k_whole)))
theorem one_ok
    (B : Below A₀ base outer h₀) (F : Fr h₀ L s.heap m) (X : (hd.heap_39 w.params).In h₀) (N : News h₀ L s.heap ((src, pairObj x y tx ty n) :: news))
    (T : Top hd.view_39 (looseW hd.view_39 []) mean mg mb h₀) (hk : cs.kind = .function) (hne : ∀ p ∈ news, p.1 ≠ src)
    (hl : (lt, listOf vs.toArray n') ∈ news) (hv0 : 0 < vs.length) (hv1 : vs.length ≤ 64) (hdp : dp + 2 < recursionLimit)
    (hret : ∀ (v : Value) (x' y' : Int) (tx' ty' : Tok) (h' : Heap) (tk' : Nat), v ∈ vs → Fr h₀ L h' m → News h₀ L h' ((src, pairObj x' y' tx' ty' n) :: news) → Q v { s with heap := h', toks := tk' }) :
    wpAny (model PySem.Challenge.rw_xm0807_01.row.prog w) (ktrTop dp un gd cn cs L a ccd cl outer) (call (.ref 109) [.ref src, .ref lt]) Q E s := by
  refine wpAny_call ?_
  refine' code_def (binds := [(Str.ofString "source", .ref src), (Str.ofString "things", .ref lt)]) B F X N T rfl rfl hk ?k6 ?k7 ?k8 ?k9 ?kB ?_ ?c2 ?c3 ?c4 ?c5
  case k6 => k_is
  case k7 => k_is
  case k8 => ktr_room
  case k9 => exact BindsTo.of_eq rfl
  case c5 => decide
  case kB => exact locs rfl
  case c2 => exact rfl
  case c3 => exact rfl
  case c4 => exact rfl
  intro g' L' h' FG' F' N' B' X' T'
  (try dsimp only)
  (try k_lift B')
  (try k_fold)
  k_steps
  exact hret _ _ _ _ _ _ _ (by assumption) (by k_asm) (by k_asm)
theorem one_okU
    (B : Below A₀ base outer h₀) (F : Fr h₀ L s.heap m) (X : (hd.heap_39 w.params).In h₀) (N : News h₀ L s.heap news)
    (T : Top hd.view_39 (looseW hd.view_39 []) mean mg mb h₀) (hk : cs.kind = .function) (U : UpdF src (pairObj x y tx ty n) news g)
    (hl : (lt, listOf vs.toArray n') ∈ news) (hls : (show Nat from lt) ≠ src) (hv0 : 0 < vs.length) (hv1 : vs.length ≤ 64) (hdp : dp + 2 < recursionLimit)
    (hret : ∀ (v : Value) (x' y' : Int) (tx' ty' : Tok) (h' : Heap) (tk' : Nat), v ∈ vs → Fr h₀ L h' m → News h₀ L h' (g (pairObj x' y' tx' ty' n)) → Q v { s with heap := h', toks := tk' }) :
    wpAny (model PySem.Challenge.rw_xm0807_01.row.prog w) (ktrTop dp un gd cn cs L a ccd cl outer) (call (.ref 109) [.ref src, .ref lt]) Q E s := by
  obtain ⟨rest, h1, h2, h3, h4⟩ := upd_rest U
  exact one_ok B F X (fun p hp => N p (h2 p hp)) T hk h1 (h3 _ hl hls) hv0 hv1 hdp fun v x' y' tx' ty' h' tk' a F' N' => hret v x' y' tx' ty' h' tk' a F' fun p hp => N' p (h4 _ p hp)
end
end Mine
-- With1
namespace Mine
theorem allLt_mem {d : Addr} : ∀ {l : List (Addr × Obj)}, AllLt d l → ∀ p ∈ l, p.1 < d
  | [], _, _, h => nomatch h
  | _ :: _, x, p, h => by
    rcases List.mem_cons.mp h with rfl | h
    · exact x.1
    · exact allLt_mem x.2 p h
theorem set_cut {ns : List Int} {k c : Int} (k0 : 0 ≤ k) (k1 : k < ns.length) : List.take k.toNat ns ++ [c] ++ List.drop (k + 1).toNat ns = ns.set k.toNat c := by
  have e : (k + 1).toNat = k.toNat + 1 := by omega
  rw [e, List.set_eq_take_append_cons_drop, if_pos (by omega)]
  simp
section
variable {w : World} {mean : ExcName → Option Value} {mg mb : Str → Option Value} {dp un : Nat} {gd : Option (List Code)} {cn : Str} {cs : Scope} {a : Addr} {ccd : Value} {cl : List (Str × Addr)} {outer : List Env} {A₀ : Around} {base h₀ : Heap} {L : Addr} {m : Str → Option Value} {news : List (Addr × Obj)} {s : Shared}
    {lt : Addr} {k c : Int} {tk tc : Tok} {n : Nat} {vs : List Value} {ns : List Int} {Q E : Value → Shared → Prop}
local macro_rules | `(tactic| k_mem) => `(tactic| first | assumption | (refine' mem1 ?_; assumption) | (refine' mem2 ?_; assumption) | (refine' mem3 ?_; assumption))
local macro_rules | `(tactic| walk_at "subscriptTail Name Slice ref ref") => `(tactic| (k_here; k_dflt (refine' kmk_slice_ints ?F ?N ?l ?p ?q ?i ?m ?c ?_ ?s ?t ?z; (case F => k_asm); (case N => k_asm); (case l => kmk_list); (case p => kmk_part); (case q => kmk_part); (case i => assumption); (case m => first | exact kmk_upto (by assumption) (by omega) | exact kmk_from (by assumption) (by omega)); (case c => kmk_len); (case s => with_unfolding_all rfl); (case t => kmk_pure); (case z => kmk_size)); intro D' ws' h' F' N' l1 hI' hC' hL'; (try k_lt l1); (try k_sweep)))
theorem with_ok
    (B : Below A₀ base outer h₀) (F : Fr h₀ L s.heap m) (X : (hd.heap_39 w.params).In h₀) (N : News h₀ L s.heap news)
    (T : Top hd.view_39 (looseW hd.view_39 []) mean mg mb h₀) (hk : cs.kind = .function)
    (hl : (lt, listOf vs.toArray n) ∈ news) (hi : IntsAre vs ns) (hz : ns.length ≤ 64) (k0 : 0 ≤ k) (k1 : k < ns.length) (hdp : dp + 2 < recursionLimit)
    (hret : ∀ (r : Addr) (vs' : List Value) (n' : Nat) (h' : Heap) (tk' : Nat), IntsAre vs' (ns.set k.toNat c) → (∀ p ∈ news, p.1 < r) → Fr h₀ L h' m → News h₀ L h' ((r, listOf vs'.toArray n') :: news) → Q (.ref r) { s with heap := h', toks := tk' }) :
    wpAny (model PySem.Challenge.rw_xm0807_01.row.prog w) (ktrTop dp un gd cn cs L a ccd cl outer) (call (.ref 123) [.ref lt, .int k tk, .int c tc]) Q E s := by
  refine wpAny_call ?_
  refine' code_def (binds := [(Str.ofString "row", .ref lt), (Str.ofString "place", .int k tk), (Str.ofString "number", .int c tc)]) B F X N T rfl rfl hk ?k6 ?k7 ?k8 ?k9 ?kB ?_ ?c2 ?c3 ?c4 ?c5
  case k6 => k_is
  case k7 => k_is
  case k8 => ktr_room
  case k9 => exact BindsTo.of_eq rfl
  case c5 => decide
  case kB => exact locs rfl
  case c2 => exact rfl
  case c3 => exact rfl
  case c4 => exact rfl
  intro g' L' h' FG' F' N' B' X' T'
  (try dsimp only)
  (try k_lift B')
  (try k_fold)
  k_steps
  have kN := show News h₀ L _ (_ :: _ :: _ :: _ :: _ :: news) from by k_asm
  have hi9 := show IntsAre _ (List.take k.toNat ns ++ [c] ++ List.drop (k + 1).toNat ns) from by assumption
  have l9 := show _ ∧ _ ∧ _ ∧ _ ∧ AllLt _ news from by assumption
  rw [set_cut k0 k1] at hi9
  exact hret _ _ _ _ _ hi9 (allLt_mem l9.2.2.2.2) (by k_asm) (fun p hp => kN p (by
    rcases List.mem_cons.mp hp with rfl | hp
    · exact .head _
    · exact .tail _ (.tail _ (.tail _ (.tail _ (.tail _ hp))))))
end
end Mine
-- Pool1
namespace Mine
section
variable {w : World} {mean : ExcName → Option Value} {mg mb : Str → Option Value} {dp un : Nat} {gd : Option (List Code)} {cn : Str} {cs : Scope} {a : Addr} {ccd : Value} {cl : List (Str × Addr)} {outer : List Env} {A₀ : Around} {base h₀ : Heap} {L : Addr} {m : Str → Option Value} {news : List (Addr × Obj)} {s : Shared}
    {sc : Addr} {vs : List Value} {ns : List Int} {Q E : Value → Shared → Prop}
theorem pool_ok
    (B : Below A₀ base outer h₀) (F : Fr h₀ L s.heap m) (X : (hd.heap_39 w.params).In h₀) (N : News h₀ L s.heap news)
    (T : Top hd.view_39 (looseW hd.view_39 []) mean mg mb h₀) (hk : cs.kind = .function)
    (hl : base.IsList sc vs.toArray) (hi : IntsAre vs ns) (hz : ns.length ≤ 63) (hdp : dp + 2 < recursionLimit)
    (hret : ∀ (r : Addr) (x y : Int) (tx ty : Tok) (h' : Heap) (tk' : Nat), (∀ p ∈ news, p.1 < r) → Fr h₀ L h' m → News h₀ L h' ((r, pairObj x y tx ty 0) :: news) → Q (.ref r) { s with heap := h', toks := tk' }) :
    wpAny (model PySem.Challenge.rw_xm0807_01.row.prog w) (ktrTop dp un gd cn cs L a ccd cl outer) (call (.ref 95) [.ref sc]) Q E s := by
  refine wpAny_call ?_
  refine' code_def (binds := [(Str.ofString "script", .ref sc)]) B F X N T rfl rfl hk ?k6 ?k7 ?k8 ?k9 ?kB ?_ ?c2 ?c3 ?c4 ?c5
  case k6 => k_is
  case k7 => k_is
  case k8 => ktr_room
  case k9 => exact BindsTo.of_eq rfl
  case c5 => decide
  case kB => exact locs rfl
  case c2 => exact rfl
  case c3 => exact rfl
  case c4 => exact rfl
  intro g' L' h' FG' F' N' B' X' T'
  (try dsimp only)
  (try k_lift B')
  (try k_fold)
  k_steps
  all_goals exact hret _ _ _ _ _ _ _ (by assumption) (by k_asm) (by k_asm)
end
end Mine
-- Comp1
namespace Mine
section
variable {prog : Program} {w : World} {A : Around} {E : Value → Shared → Prop} {s : Shared} {h₀ : Heap} {L : Addr} {m : Str → Option Value} {env : Env}
/-- one turn of a comprehension that draws -/
def DrawEnd (h₀ : Heap) (L : Addr) (m : Str → Option Value) (s : Shared) (I : Addr) (oI : Obj) (C : Addr) (oC : Obj) (D : Addr) (oD : Obj) (src : Addr) (k : Nat) (rest : List (Addr × Obj)) (G : Int → Prop) (v : Value) (s₂ : Shared) : Prop :=
  ∃ r t x y tx ty h' tk', v = .int r t ∧ G r ∧ s₂ = { s with heap := h', toks := tk' } ∧ Fr h₀ L h' m ∧ News h₀ L h' ((I, oI) :: (C, oC) :: (D, oD) :: (src, pairObj x y tx ty k) :: rest)
theorem rest_src {elt : Expr} {x : Str} {scope : Scope} {cl : List (Str × Addr)} {S : List (Addr × Obj) → Prop} {P : Nat → Value → Prop} {Fin : List Value → List (Addr × Obj) → Prop} {n : Nat} {src : Addr} {k : Nat} {rest : List (Addr × Obj)} (G : Int → Prop)
    (hS : ∀ x y tx ty, S ((src, pairObj x y tx ty k) :: rest))
    (turn : ∀ v I oI C oC D m₂ ys a b ta tb h tk (E' : Value → Shared → Prop), LCg.NsObj oC m₂ → m₂ x = some v → Fr h₀ L h m → News h₀ L h ((I, oI) :: (C, oC) :: (D, LCg.lst ys) :: (src, pairObj a b ta tb k) :: rest) → LCg.Off3 I C D ((src, pairObj a b ta tb k) :: rest) → ((@Ne Nat I C) ∧ (@Ne Nat I D) ∧ (@Ne Nat C D)) →
      wpAny (model prog w) A (eval elt (compEnvC scope cl C env)) (DrawEnd h₀ L m { s with heap := h, toks := tk } I oI C oC D (LCg.lst ys) src k rest G) E' { s with heap := h, toks := tk })
    (fin : ∀ ys rs a b ta tb, IntsAre ys rs → rs.length = n → (∀ r ∈ rs, G r) → Fin ys ((src, pairObj a b ta tb k) :: rest)) {a b : Int} {ta tb : Tok} :
    LCg.CompRest prog w A h₀ L m env elt x scope cl s S P Fin n 0 [] ((src, pairObj a b ta tb k) :: rest) := by
  have key : ∀ (j i : Nat) (ys : List Value) (rs : List Int) (a b : Int) (ta tb : Tok), i + j = n → IntsAre ys rs → rs.length = i → (∀ r ∈ rs, G r) → LCg.CompRest prog w A h₀ L m env elt x scope cl s S P Fin j i ys ((src, pairObj a b ta tb k) :: rest) := by
    intro j
    induction j with
    | zero => exact fun i ys rs a b ta tb hi hy hl hG => LCg.CompRest.zero (fin ys rs a b ta tb hy (by omega) hG)
    | succ j ih =>
      intro i ys rs a b ta tb hi hy hl hG
      refine LCg.CompRest.succ ?_
      intro v I oI C oC D m₂ h tk E' hv hC hx F N off ne
      refine wpAny_mono (turn v I oI C oC D m₂ ys a b ta tb h tk E' hC hx F N off ne) (fun y s₂ hq => ?_) fun _ _ e => e
      obtain ⟨r, t, a', b', ta', tb', h', tk', rfl, hr, e, F', N'⟩ := hq
      refine ⟨h', tk', (src, pairObj a' b' ta' tb' k) :: rest, e, F', N', ⟨off.1, off.2⟩, hS _ _ _ _, ?_⟩
      refine ih (i + 1) _ (rs ++ [r]) a' b' ta' tb' (by omega) (IntsAre.append hy (.cons r t .nil)) (by simp [hl]) fun q hq => ?_
      rcases List.mem_append.mp hq with hq | hq
      · exact hG q hq
      · rw [List.mem_singleton.mp hq]; exact hr
  exact key n 0 [] [] a b ta tb (by omega) .nil rfl (List.forall_mem_nil _)
/-- a comprehension over a tuple -/
def SrcT (prog : Program) (w : World) (A : Around) (h₀ : Heap) (L : Addr) (m : Str → Option Value) (env : Env) (elt : Expr) (x : Str) (scope : Scope) (cl : List (Str × Addr)) (Fin : Shared → List Value → List (Addr × Obj) → Prop) (xv : Value) (s₁ : Shared) : Prop :=
  ∃ ax vs k news, xv = .ref ax ∧ A.handled = none ∧ Fr h₀ L s₁.heap m ∧ News h₀ L s₁.heap news ∧ (ax, ({ cls := .type "tuple", data := .seq vs k } : Obj)) ∈ news ∧ vs.size ≤ sizeLine ∧
    ∀ s₂ : Shared, (∃ h, s₂ = { s₁ with heap := h }) → LCg.CompRest prog w A h₀ L m env elt x scope cl s₂ (fun nw => (ax, ({ cls := .type "tuple", data := .seq vs k } : Obj)) ∈ nw) (fun i v => vs[i]? = some v) (Fin s₂) vs.size 0 [] news
theorem tuple_st {ax I : Addr} {its : Array Value} {k : Nat} : ∀ i (h h' : Heap) (o : Obj) (nw : List (Addr × Obj)), (h.IsTupleIter I ax i ∧ h.IsTuple ax its) → h.get? I = some o → h'.get? I = some o → (∀ b o, h₀.get? b = some o → h'.get? b = some o) → News h₀ L h' nw → (ax, ({ cls := .type "tuple", data := .seq its k } : Obj)) ∈ nw → (h'.IsTupleIter I ax i ∧ h'.IsTuple ax its) :=
  fun i h h' o nw st e e' hk N S => ⟨by obtain ⟨o', q, r⟩ := st.1; rw [e] at q; cases q; exact ⟨o, e', r⟩, ⟨_, (N _ S).1, rfl, _, rfl⟩⟩
theorem ListComp_tup {elt iter : Expr} {x : Str} {px : Pos} {scope : Scope} {cl : List (Str × Addr)} {pos : Pos} {Q : Value → Shared → Prop} (F₀ : Fr h₀ L s.heap m)
    (hclos : closureFor scope env = pure cl) (hcell : ∀ y ∈ scope.names, y.2 ≠ .cell) (hkind : scope.kind = .function)
    (hnames : ∀ y ∈ scope.names, y.2 = .local → scope.names.lookup y.1 = some .local) (hx : scope.names.lookup x = some .local)
    (h : wpAny (model prog w) A (eval iter env) (SrcT prog w A h₀ L m env elt x scope cl (fun s₂ => LCg.FinE h₀ L m s₂ Q)) E s)
    (hs : ∀ x, foldedSetIterable iter env x = pure x := by intro _; rfl) :
    wpAny (model prog w) A (eval (.ListComp elt [⟨.Name x px, iter, [], 0⟩] scope pos) env) Q E s := by
  rw [eval_ListComp]
  refine wpAny_comprehension_free (use := none) rfl hs hclos hkind hnames (wpAny_mono h (fun xv s₁ h₁ => ?_) fun _ _ e => e)
  obtain ⟨ax, its, kk, news, rfl, hh, F, N, hm, hsz, R⟩ := h₁
  have hl : s₁.heap.IsTuple ax its := ⟨_, (N _ hm).1, rfl, _, rfl⟩
  have hlt : ax < s₁.heap.objs.size := by obtain ⟨_, e, _⟩ := hl; exact Heap.lt_size e
  refine wpAny_pyIter_tuple hl ?_
  have up : ∀ b o, s₁.heap.get? b = some o → (s₁.heap.push { cls := .type "tuple_iterator", data := .fields #[.ref ax, .int 0 0] }).get? b = some o := fun b o e => Heap.get?_push_of_some _ e
  refine LCg.block_U (Walks.tuple hh s₁.heap.objs.size ax (Nat.ne_of_lt hlt) its) hsz (fun i h st => by obtain ⟨o, e, _⟩ := st.1; exact ⟨o, e⟩) tuple_st hcell hkind hx ⟨⟨_, Heap.get?_push_size _ rfl, rfl, rfl⟩, ⟨_, up _ _ (N _ hm).1, rfl, _, rfl⟩⟩ (fun b hb => ?_)
    (F.keeps up) (N.grown up) (Nat.ne_of_lt F.ns.lt) (next_is_new F) (fun p hp => Nat.ne_of_lt (Heap.lt_size (N p hp).1)) hm (R _ ⟨_, rfl⟩) ?_
  · show b < (s₁.heap.push _).objs.size
    rw [Heap.size_push]
    rcases List.mem_cons.mp hb with rfl | hb
    · exact Nat.lt_succ_self _
    · rw [List.mem_singleton.mp hb]; exact Nat.lt_succ_of_lt hlt
  · intro D C h tk m' ys news' F' N' o1 hn hC₀ hD₀ hCL hDL hCD offC fin
    refine ⟨m', hn, fun h'' hs'' => fin D h'' tk (F'.change hs'' hCL hC₀) (fun p hp => ?_) o1⟩
    refine ⟨hs''.extBut _ _ ?_ (N' p hp).1, (N' p hp).2⟩
    rcases List.mem_cons.mp hp with rfl | hp
    · exact Ne.symm hCD
    · exact offC p hp
theorem Assign_ListComp_tup {elt iter : Expr} {x y : Str} {px py : Pos} {scope : Scope} {cl : List (Str × Addr)} {pos spos : Pos} {Q : Flow → Shared → Prop} (F₀ : Fr h₀ L s.heap m) (hLe : env.locals = L)
    (hsw : swapsWith (.ListComp elt [⟨.Name x px, iter, [], 0⟩] scope pos) (some (.Name y py)) spos.line env = pure true)
    (hclos : closureFor scope env = pure cl) (hcell : ∀ z ∈ scope.names, z.2 ≠ .cell) (hkind : scope.kind = .function)
    (hnames : ∀ z ∈ scope.names, z.2 = .local → scope.names.lookup z.1 = some .local) (hx : scope.names.lookup x = some .local)
    (hy : env.kindOf y = some .local) (hp : (env.scope.kind == .class || (env.scope.kind == .module && env.locals != env.globals)) = false)
    (h : wpAny (model prog w) A (eval iter env) (SrcT prog w A h₀ L m env elt x scope cl (fun s₂ => LCg.FinA h₀ L m s₂ y Q)) E s)
    (hs : ∀ x, foldedSetIterable iter env x = pure x := by intro _; rfl) :
    wpAny (model prog w) A (exec (.Assign [.Name y py] (.ListComp elt [⟨.Name x px, iter, [], 0⟩] scope pos) spos) env) Q E s := by
  subst hLe
  rw [exec_Assign_Name_used _ _ _ _ hsw]
  refine wpAny_bind (wpAny_standAt (wpAny_bind ?_))
  show wpAny _ A (do let _ ← comprehension (.ListComp elt [⟨.Name x px, iter, [], 0⟩] scope pos) scope env _ (newList []) false (eval iter env) (some (assign (.Name y py) env))) _ _ s
  refine wpAny_bind (wpAny_mono (wpAny_comprehension_free (use := some (assign (.Name y py) env)) (Q := fun _ s' => Q .next s') rfl hs hclos hkind hnames
    (wpAny_mono h (fun xv s₁ h₁ => ?_) fun _ _ e => e)) (fun _ s' hq => wpAny_pure (wpAny_pure hq)) fun _ _ e => e)
  obtain ⟨ax, its, kk, news, rfl, hh, F, N, hm, hsz, R⟩ := h₁
  have hl : s₁.heap.IsTuple ax its := ⟨_, (N _ hm).1, rfl, _, rfl⟩
  have hlt : ax < s₁.heap.objs.size := by obtain ⟨_, e, _⟩ := hl; exact Heap.lt_size e
  refine wpAny_pyIter_tuple hl ?_
  have up : ∀ b o, s₁.heap.get? b = some o → (s₁.heap.push { cls := .type "tuple_iterator", data := .fields #[.ref ax, .int 0 0] }).get? b = some o := fun b o e => Heap.get?_push_of_some _ e
  refine LCg.block_U (Walks.tuple hh s₁.heap.objs.size ax (Nat.ne_of_lt hlt) its) hsz (fun i h st => by obtain ⟨o, e, _⟩ := st.1; exact ⟨o, e⟩) tuple_st hcell hkind hx ⟨⟨_, Heap.get?_push_size _ rfl, rfl, rfl⟩, ⟨_, up _ _ (N _ hm).1, rfl, _, rfl⟩⟩ (fun b hb => ?_)
    (F.keeps up) (N.grown up) (Nat.ne_of_lt F.ns.lt) (next_is_new F) (fun p hp => Nat.ne_of_lt (Heap.lt_size (N p hp).1)) hm (R _ ⟨_, rfl⟩) ?_
  · show b < (s₁.heap.push _).objs.size
    rw [Heap.size_push]
    rcases List.mem_cons.mp hb with rfl | hb
    · exact Nat.lt_succ_self _
    · rw [List.mem_singleton.mp hb]; exact Nat.lt_succ_of_lt hlt
  · intro D C h' tk m' ys news' F' N' o1 hn hC₀ hD₀ hCL hDL hCD offC fin
    show wpAny _ A (assign (.Name y py) env (.ref D)) _ _ _
    refine wpAny_assign_Name (wpAny_storeName_local hy F'.ns (fun h₂ hn₂ hs₂ => ?_) hp)
    have hL₀ : h₀.get? env.locals = none := Heap.get?_none_of_le F'.above
    have F₂ : Fr h₀ env.locals h₂ (fun z => if z = y then some (.ref D) else m z) := ⟨hn₂, fun b o e => hs₂.extBut b o (fun q => by rw [q, hL₀] at e; cases e) (F'.keep b o e), F'.above⟩
    refine ⟨m', hn.sameBut hs₂ hCL, fun h'' hs'' => fin D h'' _ (F₂.change hs'' hCL hC₀) (fun p hp => ?_) o1⟩
    have z : h₂.get? p.1 = some p.2 := hs₂.extBut _ _ (N' p hp).2.1 (N' p hp).1
    refine ⟨hs''.extBut _ _ ?_ z, (N' p hp).2⟩
    rcases List.mem_cons.mp hp with rfl | hp
    · exact Ne.symm hCD
    · exact offC p hp
end
section
variable {prog : Program} {w : World} {A : Around} {E : Value → Shared → Prop} {s : Shared} {env : Env} {h₀ : Heap} {x : Str} {body : List Stmt} {Q : Flow → Shared → Prop}
/-- the end of a turn whose ledger may change its addresses -/
def TurnEnd (h₀ : Heap) (L : Addr) (I : Addr) (oI : Obj) (Jn : (Str → Option Value) → List (Addr × Obj) → Prop) (s₁ : Shared) (f : Flow) (s₂ : Shared) : Prop :=
  f = .next ∧ ∃ h' tk m' news', s₂ = { s₁ with heap := h', toks := tk } ∧ Fr h₀ L h' m' ∧ News h₀ L h' ((I, oI) :: news') ∧ (∀ p ∈ news', p.1 ≠ I) ∧ Jn m' news'
theorem rng_loop {r : Addr} {a₀ b₀ : Int} {t₀ u₀ v₀ : Tok} {n : Nat} {m₀ : Str → Option Value} {news : List (Addr × Obj)} (J : Nat → (Str → Option Value) → List (Addr × Obj) → Prop)
    (hh : A.handled = none) (hr : IsRange s.heap r a₀ b₀ 1 t₀ u₀ v₀) (hsmall : Builtin.Range.small a₀ b₀ 1 = true) (hn : Builtin.Range.rangeSize a₀ b₀ 1 = (n : Int)) (F : Fr h₀ env.locals s.heap m₀) (N : News h₀ env.locals s.heap news) (hj : J 0 m₀ news)
    (turn : ∀ (i : Nat) t m₁ news₁ h tk I oI, i < n → J i m₁ news₁ → (∀ p ∈ news₁, p.1 ≠ I) → Fr h₀ env.locals h (fun y => if y = x then some (.int (a₀ + (i : Int)) t) else m₁ y) → News h₀ env.locals h ((I, oI) :: news₁) →
      wpAny (model prog w) A (execs body env) (TurnEnd h₀ env.locals I oI (J (i + 1)) { s with heap := h, toks := tk }) E { s with heap := h, toks := tk })
    (done : ∀ m₁ news₁ h tk, J n m₁ news₁ → Fr h₀ env.locals h m₁ → News h₀ env.locals h news₁ → Q .next { s with heap := h, toks := tk }) :
    wpAny (model prog w) A (pyIter (.ref r)) (fun it s₂ => LoopAtV prog w A h₀ env x body Q E it s₂) E s := by
  refine wpAny_pyIter_range hr hsmall ?_
  have W : Walks prog w A s.heap.objs.size [s.heap.objs.size] [s.heap.objs.size] n (fun i v => i < n ∧ ∃ t, v = .int (a₀ + i * 1) t)
      (fun i h => IsRangeIter h s.heap.objs.size (a₀ + (i : Nat) * 1) ((n : Int) - (i : Nat)) 1) := (Walks.range hh _ a₀ 1 n).bound
  refine ⟨s.heap.objs.size, _, _, n, _, _, m₀, news, J, rfl, W, ?_, ?_, ?_, (by show IsRangeIter _ _ _ _ _; rw [hn]; simpa using Heap.get?_push_size _ rfl), (F.push _), (fun p hp => ⟨Heap.get?_push_of_some _ (N p hp).1, (N p hp).2⟩), hj, ?_, ?_⟩
  · intro hm
    exact absurd F.ns.lt ((List.mem_singleton.mp hm) ▸ Nat.lt_irrefl _)
  · intro b hb
    rw [List.mem_singleton.mp hb]
    exact next_is_new F
  · intro p hp hI
    exact absurd (Heap.lt_size (N p hp).1) ((List.mem_singleton.mp hI) ▸ Nat.lt_irrefl _)
  · rintro i v m₁ news₁ s₁ own ⟨hh', tk', rfl⟩ hin ⟨_, t, rfl⟩ hJ hw hown hown2 hin' hst F₁ N₁
    have e1 : a₀ + (i : Int) * 1 = a₀ + (i : Int) := by omega
    rw [e1] at F₁
    obtain ⟨oI, hI⟩ : ∃ o, hh'.get? s.heap.objs.size = some o := ⟨_, hst⟩
    have mI := hin' _ (List.mem_singleton.mpr rfl) (next_is_new F) _ hI
    have off : ∀ p ∈ news₁, p.1 ≠ s.heap.objs.size := fun p hp e => hw p hp (List.mem_singleton.mpr e)
    refine wpAny_mono (turn i t m₁ news₁ hh' tk' s.heap.objs.size oI hin hJ off F₁ fun p hp => ?_) (fun f s₂ q => ?_) fun _ _ e => e
    · rcases List.mem_cons.mp hp with rfl | hp
      · exact N₁ _ (List.mem_append_left _ mI)
      · exact N₁ _ (List.mem_append_right _ hp)
    · obtain ⟨rfl, h', tk, m', news', e, F', N', of', hj'⟩ := q
      refine LoopStepV.next ⟨rfl, h', tk, m', news', e, F', fun p hp => ?_, fun p hp hm => of' p hp (List.mem_singleton.mp hm), hj'⟩
      rcases List.mem_append.mp hp with hp | hp
      · have e1 := List.mem_singleton.mp (hown p hp)
        have e2 := hown2 p hp
        obtain ⟨pa, po⟩ := p
        have e1 : pa = s.heap.objs.size := e1
        subst e1
        have e3 := e2.symm.trans hI
        have e4 : po = _ := Option.some.inj e3
        rw [e4]
        exact N' _ (.head _)
      · exact N' _ (.tail _ hp)
  · intro h' tk m' news' F' N' _ hJ
    exact done m' news' h' tk hJ F' N'
end
end Mine
-- Pure1
namespace Mine
/-- a right head of a scan -/
structure Good (ids one oth : List Int) (p q u v : Int) : Prop where
  c1 : 1 ≤ ids.length ∧ ids.length ≤ 4
  c2 : one.length = ids.length ∧ oth.length = ids.length
  c3 : ids.Nodup
  c4 : ∀ i ∈ ids, 0 ≤ i ∧ i ≤ 255
  c5 : ∀ i ∈ one ++ oth, 0 ≤ i ∧ i ≤ 3
  c6 : (0 ≤ p ∧ p ≤ 63) ∧ (0 ≤ q ∧ q ≤ 63)
  c7 : (0 ≤ u ∧ u ≤ 15) ∧ (0 ≤ v ∧ v ≤ 15)
section
variable {ids one oth a b : List Int} {p q u v c : Int} {k : Nat}
theorem g_ok (G : Good ids one oth p q u v) : verdict ids one oth p q u v = Str.ofString "" := vd0 G.c1 G.c2 G.c3 G.c4 G.c5 G.c6 G.c7
theorem g_none : verdict [] a b p q u v = Str.ofString "a scan has 1 to 4 components" := vd1 (by decide)
theorem g_five {e1 e2 e3 e4 e5 : Int} : verdict [e1, e2, e3, e4, e5] a b p q u v = Str.ofString "a scan has 1 to 4 components" := vd1 (by show ¬ (1 ≤ 5 ∧ 5 ≤ 4); decide)
theorem g_longer (G : Good ids one oth p q u v) (h : ¬ (a.length = ids.length ∧ b.length = ids.length)) : verdict ids a b p q u v = Str.ofString "each component of a scan has two slots" := vd2 G.c1 h
theorem nodup_set {ids : List Int} (h : ids.Nodup) (hc : c ∉ ids) (k : Nat) : (ids.set k c).Nodup := by
  rw [List.nodup_iff_pairwise_ne] at *
  induction ids generalizing k with
  | nil => exact h
  | cons x r ih =>
    obtain ⟨h1, h2⟩ := List.pairwise_cons.mp h
    cases k with
    | zero =>
      rw [List.set_cons_zero]
      refine List.pairwise_cons.mpr ⟨fun y hy e => hc (.tail _ (e ▸ hy)), h2⟩
    | succ k =>
      rw [List.set_cons_succ]
      refine List.pairwise_cons.mpr ⟨fun y hy e => ?_, ih h2 (fun hm => hc (.tail _ hm)) k⟩
      rcases List.mem_or_eq_of_mem_set hy with hy | hy
      · exact h1 y hy e
      · exact hc (hy ▸ e ▸ .head _)
theorem g_name (G : Good ids one oth p q u v) (hk : k < ids.length) (hc : ¬ (0 ≤ c ∧ c ≤ 255)) : verdict (ids.set k c) one oth p q u v = Str.ofString "a component's name is a number of one octet" :=
  vd4 (by rw [List.length_set]; exact G.c1) (by rw [List.length_set]; exact G.c2) (nodup_set G.c3 (fun hm => hc (G.c4 c hm)) k) fun h => hc (h c (List.mem_set hk c))
theorem g_slot1 (G : Good ids one oth p q u v) (hk : k < ids.length) (hc : ¬ (0 ≤ c ∧ c ≤ 3)) : verdict ids (one.set k c) oth p q u v = Str.ofString "a slot is from 0 to 3" :=
  vd5 G.c1 (by rw [List.length_set]; exact G.c2) G.c3 G.c4 fun h => hc (h c (List.mem_append_left _ (List.mem_set (by rw [G.c2.1]; exact hk) c)))
theorem g_slot2 (G : Good ids one oth p q u v) (hk : k < ids.length) (hc : ¬ (0 ≤ c ∧ c ≤ 3)) : verdict ids one (oth.set k c) p q u v = Str.ofString "a slot is from 0 to 3" :=
  vd5 G.c1 (by rw [List.length_set]; exact G.c2) G.c3 G.c4 fun h => hc (h c (List.mem_append_right _ (List.mem_set (by rw [G.c2.2]; exact hk) c)))
theorem g_band (G : Good ids one oth p q u v) {p' q' u' v' : Int} (h : ¬ ((0 ≤ p' ∧ p' ≤ 63) ∧ (0 ≤ q' ∧ q' ≤ 63))) : verdict ids one oth p' q' u' v' = Str.ofString "a band is from 0 to 63" := vd6 G.c1 G.c2 G.c3 G.c4 G.c5 h
theorem g_point (G : Good ids one oth p q u v) {u' v' : Int} (h : ¬ ((0 ≤ u' ∧ u' ≤ 15) ∧ (0 ≤ v' ∧ v' ≤ 15))) : verdict ids one oth p q u' v' = Str.ofString "a bit place is from 0 to 15" := vd7 G.c1 G.c2 G.c3 G.c4 G.c5 G.c6 h
theorem not_nodup_set {j : Nat} (hk : k < ids.length) (hj : j < ids.length) (hne : k ≠ j) (hc : ids[j]? = some c) : ¬ (ids.set k c).Nodup := by
  intro h
  have e1 : (ids.set k c)[k]? = some c := by simp [hk]
  have e2 : (ids.set k c)[j]? = some c := by rw [List.getElem?_set_ne hne]; exact hc
  exact hne ((List.getElem?_inj (by simpa using hk) h).mp (e1.trans e2.symm))
/-- a name taken from the place before -/
theorem g_again (G : Good ids one oth p q u v) {j : Nat} (hk : k < ids.length) (hj : j < ids.length) (hc : ids[j]? = some c) (hjk : j = if k = 0 then ids.length - 1 else k - 1) :
    verdict (ids.set k c) one oth p q u v = if (1 : Int) < ids.length then Str.ofString "a component stands twice in a scan" else Str.ofString "" := by
  have h1 := G.c1
  by_cases h : (1 : Int) < ids.length
  · rw [if_pos h]
    refine vd3 (by rw [List.length_set]; exact G.c1) (by rw [List.length_set]; exact G.c2) (not_nodup_set hk hj ?_ hc)
    rw [hjk]
    split <;> omega
  · rw [if_neg h]
    have hl : ids.length = 1 := by omega
    have e0 : k = 0 := by omega
    have e1 : j = 0 := by omega
    subst e0
    subst e1
    have e2 : ids.set 0 c = ids := by
      obtain ⟨x, rfl⟩ := List.length_eq_one_iff.mp hl
      simpa using hc.symm
    rw [e2]
    exact g_ok G
/-- names next to each other -/
def Names (f : Int) (i : Nat) (ids : List Int) : Prop := ids.length = i ∧ ids.Nodup ∧ ∀ k ∈ ids, f ≤ k ∧ k < f + i
theorem names_nil {f : Int} : Names f 0 [] := ⟨rfl, List.nodup_nil, List.forall_mem_nil _⟩
theorem names_pre {f : Int} {i : Nat} {ids : List Int} (h : Names f i ids) : Names f (i + 1) ([f + (i : Int)] ++ ids) := by
  obtain ⟨h1, h2, h3⟩ := h
  refine ⟨by simp [h1], ?_, ?_⟩
  · show ((f + (i : Int)) :: ids).Nodup
    exact List.nodup_cons.mpr ⟨fun hm => by have := h3 _ hm; omega, h2⟩
  · intro k hk
    rcases List.mem_append.mp hk with hk | hk
    · rw [List.mem_singleton.mp hk]; omega
    · have := h3 k hk; omega
theorem names_post {f : Int} {i : Nat} {ids : List Int} (h : Names f i ids) : Names f (i + 1) (ids ++ [f + (i : Int)]) := by
  obtain ⟨h1, h2, h3⟩ := h
  refine ⟨by simp [h1], ?_, ?_⟩
  · refine List.nodup_append.mpr ⟨h2, by simp, fun a ha b hb e => ?_⟩
    rw [List.mem_singleton.mp hb] at e
    have := h3 a ha
    omega
  · intro k hk
    rcases List.mem_append.mp hk with hk | hk
    · have := h3 k hk; omega
    · rw [List.mem_singleton.mp hk]; omega
/-- one of these -/
def Pick (n : Int) (ns : List Int) : Prop := n ∈ ns
theorem pick_int {vs : List Value} {ns : List Int} {x : Value} (hi : IntsAre vs ns) (hx : x ∈ vs) : ∃ n t, x = .int n t ∧ Pick n ns := by
  induction hi with
  | nil => cases hx
  | cons n t _ ih =>
    rcases List.mem_cons.mp hx with rfl | hx
    · exact ⟨n, t, rfl, List.Mem.head _⟩
    · obtain ⟨n', t', e, h⟩ := ih hx
      exact ⟨n', t', e, List.Mem.tail _ h⟩
end
end Mine
-- Ids1
namespace Mine
/-- a drawn number's bounds, kept shut -/
def Bnd (r top : Int) : Prop := 0 ≤ r ∧ r < top
theorem bnd {r top : Int} (a : 0 ≤ r) (b : r < top) : Bnd r top := ⟨a, b⟩
def IdsJ (src c : Addr) (oc : Obj) (k : Nat) (f : Int) (x : Str) (m₀ : Str → Option Value) (i : Nat) (m : Str → Option Value) (news : List (Addr × Obj)) : Prop :=
  ∃ li vi ids n0 a b ta tb u, m = (fun y => if y = x then u else if y = Str.ofString "idents" then some (.ref li) else m₀ y) ∧ news = [(src, pairObj a b ta tb k), (li, listOf (List.toArray vi) n0), (c, oc)] ∧ Names f i ids ∧ IntsAre vi ids ∧ @Ne Nat li src
section
variable {prog : Program} {w : World} {A : Around} {E : Value → Shared → Prop} {s : Shared} {env : Env} {h₀ : Heap} {x : Str} {body : List Stmt} {Q : Flow → Shared → Prop}
theorem ids_loop {r src c li : Addr} {b₀ : Int} {t₀ u₀ v₀ ta tb : Tok} {m₀ : Str → Option Value} {news : List (Addr × Obj)} {oc : Obj} {k n0 : Nat} {a b : Int} {f : Int} {ns₀ : List Int} (pk : Pick f ns₀) (hc : oc.data = .cell (some (.ref src)))
    (hh : A.handled = none) (hr : IsRange s.heap r 0 b₀ 1 t₀ u₀ v₀) (hb : 0 < b₀ ∧ b₀ ≤ 4) (F : Fr h₀ env.locals s.heap m₀) (hm : m₀ (Str.ofString "idents") = some (.ref li)) (N : News h₀ env.locals s.heap news)
    (h1 : (src, pairObj a b ta tb k) ∈ news) (h2 : (li, listOf (List.toArray []) n0) ∈ news) (h3 : (c, oc) ∈ news) (hne : (@Ne Nat li src) ∧ (@Ne Nat c src))
    (turn : ∀ (i : Nat) t li vi ids n0 a b ta tb h tk I oI, Names f i ids → i < 4 → ids.length ≤ 1000 → IntsAre vi ids → ((@Ne Nat I src) ∧ (@Ne Nat I li) ∧ (@Ne Nat I c) ∧ (@Ne Nat li src) ∧ (@Ne Nat c src)) →
      Fr h₀ env.locals h (fun y => if y = x then some (.int (i : Int) t) else if y = Str.ofString "idents" then some (.ref li) else m₀ y) → News h₀ env.locals h [(I, oI), (src, pairObj a b ta tb k), (li, listOf (List.toArray vi) n0), (c, oc)] →
      wpAny (model prog w) A (execs body env) (TurnEnd h₀ env.locals I oI (IdsJ src c oc k f x m₀ (i + 1)) { s with heap := h, toks := tk }) E { s with heap := h, toks := tk })
    (done : ∀ (n : Nat) u li vi ids n0 a b ta tb h tk, 1 ≤ n → n ≤ 4 → Names f n ids → IntsAre vi ids → ((@Ne Nat li src) ∧ (@Ne Nat c src)) → Fr h₀ env.locals h (fun y => if y = x then u else if y = Str.ofString "idents" then some (.ref li) else m₀ y) →
      News h₀ env.locals h [(src, pairObj a b ta tb k), (li, listOf (List.toArray vi) n0), (c, oc)] → Q .next { s with heap := h, toks := tk }) (hx : Str.ofString "idents" ≠ x) :
    wpAny (model prog w) A (pyIter (.ref r)) (fun it s₂ => LoopAtV prog w A h₀ env x body Q E it s₂) E s := by
  refine rng_loop (n := b₀.toNat) (IdsJ src c oc k f x m₀) hh hr (small_one (by omega) (by omega) (by omega) (by omega)) (by have := rangeSize_nat 0 b₀; simpa using this) F (news := [(src, pairObj a b ta tb k), (li, listOf (List.toArray []) n0), (c, oc)]) (fun p hp => ?_) ⟨li, [], [], n0, a, b, ta, tb, m₀ x, ?_, rfl, names_nil, .nil, hne.1⟩ ?_ ?_
  · rcases List.mem_cons.mp hp with rfl | hp
    · exact N _ h1
    · rcases List.mem_cons.mp hp with rfl | hp
      · exact N _ h2
      · rw [List.mem_singleton.mp hp]; exact N _ h3
  · funext y
    by_cases e1 : y = x
    · rw [if_pos e1, e1]
    · rw [if_neg e1]
      by_cases e2 : y = Str.ofString "idents"
      · rw [if_pos e2, e2, hm]
      · rw [if_neg e2]
  · rintro i t m₁ news₁ h tk I oI hi ⟨li', vi, ids, n', a', b', ta', tb', u, rfl, rfl, hN, hI, hl⟩ hoff F₁ N₁
    have o1 := hoff _ (.head _)
    have o2 := hoff _ (.tail _ (.head _))
    have o3 := hoff _ (.tail _ (.tail _ (.head _)))
    refine turn i t li' vi ids n' a' b' ta' tb' h tk I oI hN (by omega) (by rw [hN.1]; omega) hI ⟨Ne.symm o1, Ne.symm o2, Ne.symm o3, hl, hne.2⟩ ?_ N₁
    have em : (fun y => if y = x then some (Value.int (0 + (i : Int)) t) else if y = x then u else if y = Str.ofString "idents" then some (.ref li') else m₀ y) = fun y => if y = x then some (.int (i : Int) t) else if y = Str.ofString "idents" then some (.ref li') else m₀ y := by
      funext y
      by_cases e1 : y = x
      · rw [if_pos e1, if_pos e1, Int.zero_add]
      · rw [if_neg e1, if_neg e1, if_neg e1]
    exact em ▸ F₁
  · rintro m₁ news₁ h tk ⟨li', vi, ids, n', a', b', ta', tb', u, rfl, rfl, hN, hI, hl⟩ F₁ N₁
    exact done b₀.toNat u li' vi ids n' a' b' ta' tb' h tk (by omega) (by omega) hN hI ⟨hl, hne.2⟩ F₁ N₁
theorem ids_end {L src c li I : Addr} {oI oc : Obj} {k i n0 : Nat} {f a b : Int} {ta tb t : Tok} {m₀ : Str → Option Value} {news : List (Addr × Obj)} {v v' : Option Value} {vi : List Value} {ids : List Int} {s₁ : Shared} {h' : Heap} {tk : Nat}
    (F : Fr h₀ L h' (fun y => if y = Str.ofString "idents" then some (.ref li) else if y = x then v else if y = Str.ofString "idents" then v' else m₀ y)) (N : News h₀ L h' news)
    (h1 : (src, pairObj a b ta tb k) ∈ news) (h2 : (li, listOf (List.toArray vi) n0) ∈ news) (h3 : (c, oc) ∈ news) (h4 : (I, oI) ∈ news) (hN : Names f i ids) (hI : IntsAre vi ids) (hne : (@Ne Nat I src) ∧ (@Ne Nat I li) ∧ (@Ne Nat I c) ∧ (@Ne Nat li src)) (hx : Str.ofString "idents" ≠ x) :
    TurnEnd h₀ L I oI (IdsJ src c oc k f x m₀ i) s₁ .next { s₁ with heap := h', toks := tk } := by
  refine ⟨rfl, h', tk, _, [(src, pairObj a b ta tb k), (li, listOf (List.toArray vi) n0), (c, oc)], rfl, F, ?_, ?_, ⟨li, vi, ids, n0, a, b, ta, tb, v, ?_, rfl, hN, hI, hne.2.2.2⟩⟩
  · intro p hp
    rcases List.mem_cons.mp hp with rfl | hp
    · exact N _ h4
    · rcases List.mem_cons.mp hp with rfl | hp
      · exact N _ h1
      · rcases List.mem_cons.mp hp with rfl | hp
        · exact N _ h2
        · rw [List.mem_singleton.mp hp]; exact N _ h3
  · intro p hp
    rcases List.mem_cons.mp hp with rfl | hp
    · exact Ne.symm hne.1
    · rcases List.mem_cons.mp hp with rfl | hp
      · exact Ne.symm hne.2.1
      · rw [List.mem_singleton.mp hp]; exact Ne.symm hne.2.2.1
  · funext y
    by_cases e1 : y = Str.ofString "idents"
    · rw [if_pos e1, e1, if_neg hx, if_pos rfl]
    · rw [if_neg e1, if_neg e1]
      by_cases e2 : y = x
      · rw [if_pos e2, if_pos e2]
      · rw [if_neg e2, if_neg e2, if_neg e1]
end
end Mine
-- Comp2
namespace Mine
theorem off3_upd {I C D src : Addr} {o o₁ o' : Obj} {l : List (Addr × Obj)} {g : Obj → List (Addr × Obj)} (U : UpdF src o l g) (h : LCg.Off3 I C D (g o₁)) : LCg.Off3 I C D (g o') := by
  obtain ⟨pre, post, _, hg, _, _⟩ := U.split
  rw [hg] at h ⊢
  refine LCg.Off3.of fun p hp => ?_
  rcases List.mem_append.mp hp with hp | hp
  · exact h.mem p (List.mem_append_left _ hp)
  · rcases List.mem_cons.mp hp with rfl | hp
    · exact h.mem (src, o₁) (List.mem_append_right _ (.head _))
    · exact h.mem p (List.mem_append_right _ (.tail _ hp))
section
variable {prog : Program} {w : World} {A : Around} {E : Value → Shared → Prop} {s : Shared} {h₀ : Heap} {L : Addr} {m : Str → Option Value} {env : Env}
/-- one turn of a comprehension that draws -/
def DrawU (h₀ : Heap) (L : Addr) (m : Str → Option Value) (s : Shared) (I : Addr) (oI : Obj) (C : Addr) (oC : Obj) (D : Addr) (oD : Obj) (k : Nat) (g : Obj → List (Addr × Obj)) (G : Int → Prop) (v : Value) (s₂ : Shared) : Prop :=
  ∃ r t x y tx ty h' tk', v = .int r t ∧ G r ∧ s₂ = { s with heap := h', toks := tk' } ∧ Fr h₀ L h' m ∧ News h₀ L h' ((I, oI) :: (C, oC) :: (D, oD) :: g (pairObj x y tx ty k))
theorem DrawU.intro {s₁ : Shared} {I C D : Addr} {oI oC oD : Obj} {k tk : Nat} {g : Obj → List (Addr × Obj)} {G : Int → Prop} {r x y : Int} {t tx ty : Tok} {h' : Heap} {all : List (Addr × Obj)} (F : Fr h₀ L h' m) (N : News h₀ L h' all)
    (sub : ∀ p ∈ (I, oI) :: (C, oC) :: (D, oD) :: g (pairObj x y tx ty k), p ∈ all) (hG : G r) : DrawU h₀ L m s₁ I oI C oC D oD k g G (.int r t) { s₁ with heap := h', toks := tk } :=
  ⟨r, t, x, y, tx, ty, h', tk, rfl, hG, rfl, F, fun p hp => N p (sub p hp)⟩
theorem rest_srcU {elt : Expr} {x : Str} {scope : Scope} {cl : List (Str × Addr)} {S : List (Addr × Obj) → Prop} {P : Nat → Value → Prop} {Fin : List Value → List (Addr × Obj) → Prop} {n : Nat} {src : Addr} {k : Nat} {a b : Int} {ta tb : Tok} {news : List (Addr × Obj)} {g : Obj → List (Addr × Obj)} (G : Int → Prop)
    (U : UpdF src (pairObj a b ta tb k) news g) (hS : ∀ o, S (g o))
    (turn : ∀ v I oI C oC D m₂ ys a b ta tb h tk (E' : Value → Shared → Prop), LCg.NsObj oC m₂ → m₂ x = some v → Fr h₀ L h m → News h₀ L h ((I, oI) :: (C, oC) :: (D, LCg.lst ys) :: g (pairObj a b ta tb k)) → LCg.Off3 I C D (g (pairObj a b ta tb k)) → ((@Ne Nat I C) ∧ (@Ne Nat I D) ∧ (@Ne Nat C D)) →
      wpAny (model prog w) A (eval elt (compEnvC scope cl C env)) (DrawU h₀ L m { s with heap := h, toks := tk } I oI C oC D (LCg.lst ys) k g G) E' { s with heap := h, toks := tk })
    (fin : ∀ ys rs a b ta tb, IntsAre ys rs → rs.length = n → (∀ r ∈ rs, G r) → Fin ys (g (pairObj a b ta tb k))) :
    LCg.CompRest prog w A h₀ L m env elt x scope cl s S P Fin n 0 [] (g (pairObj a b ta tb k)) := by
  have key : ∀ (j i : Nat) (ys : List Value) (rs : List Int) (a b : Int) (ta tb : Tok), i + j = n → IntsAre ys rs → rs.length = i → (∀ r ∈ rs, G r) → LCg.CompRest prog w A h₀ L m env elt x scope cl s S P Fin j i ys (g (pairObj a b ta tb k)) := by
    intro j
    induction j with
    | zero => exact fun i ys rs a b ta tb hi hy hl hG => LCg.CompRest.zero (fin ys rs a b ta tb hy (by omega) hG)
    | succ j ih =>
      intro i ys rs a b ta tb hi hy hl hG
      refine LCg.CompRest.succ ?_
      intro v I oI C oC D m₂ h tk E' hv hC hx F N off ne
      refine wpAny_mono (turn v I oI C oC D m₂ ys a b ta tb h tk E' hC hx F N off ne) (fun y s₂ hq => ?_) fun _ _ e => e
      obtain ⟨r, t, a', b', ta', tb', h', tk', rfl, hr, e, F', N'⟩ := hq
      refine ⟨h', tk', g (pairObj a' b' ta' tb' k), e, F', N', off3_upd U off, hS _, ?_⟩
      refine ih (i + 1) _ (rs ++ [r]) a' b' ta' tb' (by omega) (IntsAre.append hy (.cons r t .nil)) (by simp [hl]) fun q hq => ?_
      rcases List.mem_append.mp hq with hq | hq
      · exact hG q hq
      · rw [List.mem_singleton.mp hq]; exact hr
  exact key n 0 [] [] a b ta tb (by omega) .nil rfl (List.forall_mem_nil _)
theorem upd_mem {d : Addr} {o o' : Obj} {l : List (Addr × Obj)} {g : Obj → List (Addr × Obj)} (U : UpdF d o l g) : (d, o') ∈ g o' := by
  obtain ⟨pre, post, e, hg, _, _⟩ := U.split
  rw [hg]
  exact List.mem_append_right _ (.head _)
theorem off1_src {D src : Addr} {oc o : Obj} : ∀ {l : List (Addr × Obj)}, oc.data = .cell (some (.ref src)) → LCg.Off1 D l → (src, o) ∈ l → @Ne Nat D src
  | [], _, _, h => nomatch h
  | _ :: _, hc, x, h => by
    rcases List.mem_cons.mp h with rfl | h
    · exact Ne.symm x.1
    · exact off1_src hc x.2 h
theorem upd_same {d : Addr} {o : Obj} {l : List (Addr × Obj)} {g : Obj → List (Addr × Obj)} (U : UpdF d o l g) : g o = l := by
  obtain ⟨pre, post, e, hg, _, _⟩ := U.split
  rw [hg, e]
theorem comp_list {elt : Expr} {x : Str} {scope : Scope} {cl : List (Str × Addr)} {Fin : Shared → List Value → List (Addr × Obj) → Prop} {src ax : Addr} {vs : List Value} {ns : List Int} {n0 k : Nat} {a b : Int} {ta tb : Tok} {news : List (Addr × Obj)} {g : Obj → List (Addr × Obj)} {oc : Obj} (G : Int → Prop) (hc : oc.data = .cell (some (.ref src)))
    (hh : A.handled = none) (F : Fr h₀ L s.heap m) (N : News h₀ L s.heap news) (U : UpdF src (pairObj a b ta tb k) news g) (hm : ∀ o, (ax, listOf vs.toArray n0) ∈ g o) (hi : IntsAre vs ns) (hsz : ns.length ≤ 1000)
    (turn : ∀ v I oI C oC D m₂ ys a b ta tb h tk (E' : Value → Shared → Prop), LCg.NsObj oC m₂ → m₂ x = some v → Fr h₀ L h m → News h₀ L h ((I, oI) :: (C, oC) :: (D, LCg.lst ys) :: g (pairObj a b ta tb k)) → @Ne Nat I src → @Ne Nat C src → @Ne Nat D src →
      wpAny (model prog w) A (eval elt (compEnvC scope cl C env)) (DrawU h₀ L m { s with heap := h, toks := tk } I oI C oC D (LCg.lst ys) k g G) E' { s with heap := h, toks := tk })
    (fin : ∀ hz ys rs a b ta tb, IntsAre ys rs → rs.length = ns.length → (∀ r ∈ rs, G r) → Fin { s with heap := hz } ys (g (pairObj a b ta tb k))) :
    LCg.CompSrc prog w A h₀ L m env elt x scope cl Fin (.ref ax) s := by
  have hsame := upd_same U
  have hlen : (List.toArray vs).size = ns.length := by rw [List.size_toArray]; exact hi.length
  refine LCg.CompSrc.ledger hh F (hsame ▸ N : News h₀ L s.heap (g (pairObj a b ta tb k))) (hm _) (by rw [hlen]; exact Nat.le_trans hsz (by rw [sizeLine_eq]; omega)) fun hz => ?_
  rw [hlen]
  exact rest_srcU G U (fun o => .inr ⟨_, hm o, rfl, _, rfl⟩) (fun v I oI C oC D m₂ ys a b ta tb h tk E' hC hx F N off ne => have z := off.mem (src, _) (upd_mem U); turn v I oI C oC D m₂ ys a b ta tb h tk E' hC hx F N (Ne.symm z.1) (Ne.symm z.2.1) (Ne.symm z.2.2)) fun ys rs a b ta tb h1 h2 h3 => fin hz ys rs a b ta tb h1 h2 h3
theorem comp_tup {elt : Expr} {x : Str} {scope : Scope} {cl : List (Str × Addr)} {Fin : Shared → List Value → List (Addr × Obj) → Prop} {src ax : Addr} {vs : Array Value} {n0 n k : Nat} {a b : Int} {ta tb : Tok} {news : List (Addr × Obj)} {g : Obj → List (Addr × Obj)} {oc : Obj} (G : Int → Prop) (hc : oc.data = .cell (some (.ref src)))
    (hh : A.handled = none) (F : Fr h₀ L s.heap m) (N : News h₀ L s.heap news) (U : UpdF src (pairObj a b ta tb k) news g) (hm : ∀ o, (ax, ({ cls := .type "tuple", data := .seq vs n0 } : Obj)) ∈ g o) (hn : vs.size = n) (hsz : n ≤ 1000)
    (turn : ∀ v I oI C oC D m₂ ys a b ta tb h tk (E' : Value → Shared → Prop), LCg.NsObj oC m₂ → m₂ x = some v → Fr h₀ L h m → News h₀ L h ((I, oI) :: (C, oC) :: (D, LCg.lst ys) :: g (pairObj a b ta tb k)) → @Ne Nat I src → @Ne Nat C src → @Ne Nat D src →
      wpAny (model prog w) A (eval elt (compEnvC scope cl C env)) (DrawU h₀ L m { s with heap := h, toks := tk } I oI C oC D (LCg.lst ys) k g G) E' { s with heap := h, toks := tk })
    (fin : ∀ hz ys rs a b ta tb, IntsAre ys rs → rs.length = n → (∀ r ∈ rs, G r) → Fin { s with heap := hz } ys (g (pairObj a b ta tb k))) :
    SrcT prog w A h₀ L m env elt x scope cl Fin (.ref ax) s := by
  have hsame := upd_same U
  refine ⟨ax, vs, n0, g (pairObj a b ta tb k), rfl, hh, F, (hsame ▸ N : News h₀ L s.heap (g (pairObj a b ta tb k))), hm _, by rw [hn]; exact Nat.le_trans hsz (by rw [sizeLine_eq]; omega), ?_⟩
  rintro s₂ ⟨hz, rfl⟩
  rw [hn]
  exact rest_srcU G U (fun o => hm o) (fun v I oI C oC D m₂ ys a b ta tb h tk E' hC hx F N off ne => have z := off.mem (src, _) (upd_mem U); turn v I oI C oC D m₂ ys a b ta tb h tk E' hC hx F N (Ne.symm z.1) (Ne.symm z.2.1) (Ne.symm z.2.2)) fun ys rs a b ta tb h1 h2 h3 => fin hz ys rs a b ta tb h1 h2 h3
end
/-- one to four unlike names of an octet -/
structure GoodIds (ids : List Int) : Prop where
  len : 1 ≤ ids.length ∧ ids.length ≤ 4
  nd : ids.Nodup
  rng : ∀ i ∈ ids, 0 ≤ i ∧ i ≤ 255
theorem goodIds {f : Int} {n : Nat} {ids : List Int} (h1 : 1 ≤ n) (h4 : n ≤ 4) (hp : Pick f [0, 1, 252]) (h : Names f n ids) : GoodIds ids := by
  obtain ⟨a, b, c⟩ := h
  have hf : 0 ≤ f ∧ f ≤ 252 := by
    rcases List.mem_cons.mp hp with rfl | hp
    · omega
    rcases List.mem_cons.mp hp with rfl | hp
    · omega
    rw [List.mem_singleton.mp hp]; omega
  refine ⟨by omega, b, fun i hi => ?_⟩
  have := c i hi
  omega
end Mine
-- Law2
namespace Mine
/-- two addresses apart, kept shut -/
def Off (a b : Nat) : Prop := a ≠ b
theorem off_of {a b : Nat} (h : @Ne Nat a b) : Off a b := h
theorem Off.ne {a b : Nat} (h : Off a b) : a ≠ b := h
theorem Off.ne' {a b : Nat} (h : Off b a) : a ≠ b := Ne.symm h
theorem conj_off {a D : Nat} {src : Addr} {P : Prop} {oc : Obj} (hc : oc.data = .cell (some (.ref src))) (l : @LT.lt Nat _ a D ∧ P) (k : @LT.lt Nat _ src D) : Off D src := Nat.ne_of_gt k
/-- where source's cell lies -/
def CellAt (c : Nat) : Prop := c = c
theorem off_mark {c src : Nat} (h : Off c src) : CellAt c := rfl
theorem cell_mark {c : Addr} {oc : Obj} {src : Addr} {news : List (Addr × Obj)} (hc : oc.data = .cell (some (.ref src))) (hm : (c, oc) ∈ news) : CellAt c := rfl
theorem conj_offc {a D c : Nat} {P : Prop} (hc : CellAt c) (l : @LT.lt Nat _ a D ∧ P) (k : @LT.lt Nat _ c D) : Off D c := Nat.ne_of_gt k
theorem prune {h₀ h : Heap} {L src c li l1 l2 t ln : Addr} {oc osrc oi o1 o2 ot on : Obj} {m : Str → Option Value} {news : List (Addr × Obj)} (hc : oc.data = .cell (some (.ref src))) (F : Fr h₀ L h m) (N : News h₀ L h news)
    (hi : m (Str.ofString "idents") = some (.ref li)) (h1 : m (Str.ofString "one") = some (.ref l1)) (h2 : m (Str.ofString "other") = some (.ref l2)) (ht : m (Str.ofString "slots") = some (.ref t)) (hn : m (Str.ofString "numbers") = some (.ref ln))
    (ms : (src, osrc) ∈ news) (mc : (c, oc) ∈ news) (mi : (li, oi) ∈ news) (m1 : (l1, o1) ∈ news) (m2 : (l2, o2) ∈ news) (mt : (t, ot) ∈ news) (mn : (ln, on) ∈ news) :
    News h₀ L h [(src, osrc), (ln, on), (t, ot), (l2, o2), (l1, o1), (li, oi), (c, oc)] := fun p hp => by
  simp only [List.mem_cons, List.not_mem_nil, or_false] at hp
  rcases hp with rfl | rfl | rfl | rfl | rfl | rfl | rfl
  · exact N _ ms
  · exact N _ mn
  · exact N _ mt
  · exact N _ m2
  · exact N _ m1
  · exact N _ mi
  · exact N _ mc
theorem prune3 {h₀ h : Heap} {L src c li l1 l2 t ln T a b : Addr} {oc osrc oi o1 o2 ot on oa ob : Obj} {k : Nat} {m : Str → Option Value} {news : List (Addr × Obj)} (hc : oc.data = .cell (some (.ref src))) (F : Fr h₀ L h m) (N : News h₀ L h news)
    (hi : m (Str.ofString "idents") = some (.ref li)) (h1 : m (Str.ofString "one") = some (.ref l1)) (h2 : m (Str.ofString "other") = some (.ref l2)) (ht : m (Str.ofString "slots") = some (.ref t)) (hn : m (Str.ofString "numbers") = some (.ref ln)) (hT : m (Str.ofString "longer") = some (.ref T))
    (ms : (src, osrc) ∈ news) (mc : (c, oc) ∈ news) (mi : (li, oi) ∈ news) (m1 : (l1, o1) ∈ news) (m2 : (l2, o2) ∈ news) (mt : (t, ot) ∈ news) (mn : (ln, on) ∈ news) (mT : (T, ({ cls := .type "tuple", data := .seq #[.ref a, .ref b] k } : Obj)) ∈ news) (ma : (a, oa) ∈ news) (mb : (b, ob) ∈ news) :
    News h₀ L h [(src, osrc), (T, ({ cls := .type "tuple", data := .seq #[.ref a, .ref b] k } : Obj)), (a, oa), (b, ob), (ln, on), (t, ot), (l2, o2), (l1, o1), (li, oi), (c, oc)] := fun p hp => by
  simp only [List.mem_cons, List.not_mem_nil, or_false] at hp
  rcases hp with rfl | rfl | rfl | rfl | rfl | rfl | rfl | rfl | rfl | rfl
  · exact N _ ms
  · exact N _ mT
  · exact N _ ma
  · exact N _ mb
  · exact N _ mn
  · exact N _ mt
  · exact N _ m2
  · exact N _ m1
  · exact N _ mi
  · exact N _ mc
theorem bnd_succ {r : Int} (h : Bnd r 4) : 0 < 1 + r ∧ 1 + r ≤ 4 := by
  obtain ⟨a, b⟩ := h
  omega
theorem pick_bnd {f z r top : Int} (h : Pick f [0, z, r]) (hr : Bnd r top) (hz : 0 ≤ z ∧ z < top) : Bnd f top := by
  obtain ⟨a, b⟩ := hr
  rcases List.mem_cons.mp h with rfl | h
  · exact ⟨by omega, by omega⟩
  rcases List.mem_cons.mp h with rfl | h
  · exact hz
  · rw [List.mem_singleton.mp h]; exact ⟨a, b⟩
theorem two_of {rs : List Int} (h : rs.length = 2) : ∃ p q, rs = [p, q] := by
  match rs, h with
  | [p, q], _ => exact ⟨p, q, rfl⟩
theorem mkGood {ids one oth : List Int} {p q u v : Int} (g : GoodIds ids) (l1 : one.length = ids.length) (l2 : oth.length = ids.length) (b1 : ∀ r ∈ one, Bnd r 4) (b2 : ∀ r ∈ oth, Bnd r 4) (hp : ∀ r ∈ [p, q], Bnd r 64) (hu : ∀ r ∈ [u, v], Bnd r 16) : Good ids one oth p q u v := by
  have p1 := hp p (by simp)
  have p2 := hp q (by simp)
  have p3 := hu u (by simp)
  have p4 := hu v (by simp)
  unfold Bnd at p1 p2 p3 p4
  refine ⟨g.len, ⟨l1, l2⟩, g.nd, g.rng, fun i hi => ?_, by omega, by omega⟩
  rcases List.mem_append.mp hi with hi | hi
  · have := b1 i hi; unfold Bnd at this; omega
  · have := b2 i hi; unfold Bnd at this; omega
theorem bnd_lo {r top : Int} (h : Bnd r top) : 0 ≤ r := h.1
theorem bnd_hi {r top : Int} (h : Bnd r top) : r < top := h.2
theorem bnd_len {r : Int} {n m : Nat} (h : Bnd r n) (e : m = n) : r < m := by rw [e]; exact h.2
theorem bnd_nat {r : Int} {n : Nat} (h : Bnd r n) : r.toNat < n := by
  obtain ⟨a, b⟩ := h
  omega
theorem pick_two {c x y : Int} (h : Pick c [x, y]) : c = x ∨ c = y := by
  rcases List.mem_cons.mp h with h | h
  · exact .inl h
  · exact .inr (List.mem_singleton.mp h)
section
variable {ids one oth : List Int} {p q u v c k : Int}
theorem vN (G : Good ids one oth p q u v) (b : Bnd k ids.length) (pk : Pick c [-1, 256]) : verdict (ids.set k.toNat c) one oth p q u v = Str.ofString "a component's name is a number of one octet" :=
  g_name G (bnd_nat b) (by rcases pick_two pk with h | h <;> omega)
theorem vS1 (G : Good ids one oth p q u v) (b : Bnd k ids.length) (pk : Pick c [-1, 4]) : verdict ids (one.set k.toNat c) oth p q u v = Str.ofString "a slot is from 0 to 3" :=
  g_slot1 G (bnd_nat b) (by rcases pick_two pk with h | h <;> omega)
theorem vS2 (G : Good ids one oth p q u v) (b : Bnd k ids.length) (pk : Pick c [-1, 4]) : verdict ids one (oth.set k.toNat c) p q u v = Str.ofString "a slot is from 0 to 3" :=
  g_slot2 G (bnd_nat b) (by rcases pick_two pk with h | h <;> omega)
theorem vB0 (G : Good ids one oth p q u v) (pk : Pick c [-1, 64]) : verdict ids one oth c q u v = Str.ofString "a band is from 0 to 63" := g_band G (by rcases pick_two pk with h | h <;> omega)
theorem vB1 (G : Good ids one oth p q u v) (pk : Pick c [-1, 64]) : verdict ids one oth p c u v = Str.ofString "a band is from 0 to 63" := g_band G (by rcases pick_two pk with h | h <;> omega)
theorem vP2 (G : Good ids one oth p q u v) (pk : Pick c [-1, 16]) : verdict ids one oth p q c v = Str.ofString "a bit place is from 0 to 15" := g_point G (by rcases pick_two pk with h | h <;> omega)
theorem vP3 (G : Good ids one oth p q u v) (pk : Pick c [-1, 16]) : verdict ids one oth p q u c = Str.ofString "a bit place is from 0 to 15" := g_point G (by rcases pick_two pk with h | h <;> omega)
end
theorem pick_longer {h₀ h : Heap} {L src t1 t2 t3 t4 o e a0 a1 b2 b3 : Addr} {news : List (Addr × Obj)} {v : Value} {vo ve va0 va1 vb2 vb3 : List Value} {lo le : List Int} {x y : Int} {j j' : Nat} {no ne na0 na1 nb2 nb3 k1 k2 k3 k4 n : Nat} {oc : Obj} (hc : oc.data = .cell (some (.ref src)))
    (hv : v ∈ [.ref t1, .ref t2, .ref t3, .ref t4]) (N : News h₀ L h news) (m1 : (t1, ({ cls := .type "tuple", data := .seq #[.ref a0, .ref e] k1 } : Obj)) ∈ news) (m2 : (t2, ({ cls := .type "tuple", data := .seq #[.ref a1, .ref e] k2 } : Obj)) ∈ news)
    (m3 : (t3, ({ cls := .type "tuple", data := .seq #[.ref o, .ref b2] k3 } : Obj)) ∈ news) (m4 : (t4, ({ cls := .type "tuple", data := .seq #[.ref o, .ref b3] k4 } : Obj)) ∈ news)
    (mo : (o, listOf (List.toArray vo) no) ∈ news) (me : (e, listOf (List.toArray ve) ne) ∈ news) (ma0 : (a0, listOf (List.toArray va0) na0) ∈ news) (ma1 : (a1, listOf (List.toArray va1) na1) ∈ news) (mb2 : (b2, listOf (List.toArray vb2) nb2) ∈ news) (mb3 : (b3, listOf (List.toArray vb3) nb3) ∈ news)
    (io : IntsAre vo lo) (ie : IntsAre ve le) (ia0 : IntsAre va0 (lo ++ [x])) (ia1 : IntsAre va1 (lo.drop j)) (ib2 : IntsAre vb2 (le ++ [y])) (ib3 : IntsAre vb3 (le.drop j'))
    (h1 : lo.length = n) (h2 : le.length = n) (hj : j = 1) (hj' : j' = 1) (hn : 1 ≤ n ∧ n ≤ 4)
    (q1 : @Ne Nat t1 src) (q2 : @Ne Nat t2 src) (q3 : @Ne Nat t3 src) (q4 : @Ne Nat t4 src) (qo : @Ne Nat o src) (qe : @Ne Nat e src) (qa0 : @Ne Nat a0 src) (qa1 : @Ne Nat a1 src) (qb2 : @Ne Nat b2 src) (qb3 : @Ne Nat b3 src) :
    ∃ T a b va vb la lb na nb k, v = .ref T ∧ News h₀ L h ((T, ({ cls := .type "tuple", data := .seq #[.ref a, .ref b] k } : Obj)) :: (a, listOf (List.toArray va) na) :: (b, listOf (List.toArray vb) nb) :: news) ∧ IntsAre va la ∧ IntsAre vb lb ∧ ¬ (la.length = n ∧ lb.length = n) ∧ la.length ≤ 1000 ∧ lb.length ≤ 1000 ∧ (@Ne Nat T src) ∧ (@Ne Nat a src) ∧ (@Ne Nat b src) := by
  have cons : ∀ {x y z : Addr × Obj}, x ∈ news → y ∈ news → z ∈ news → News h₀ L h (x :: y :: z :: news) := fun hx hy hz p hp => by
    rcases List.mem_cons.mp hp with rfl | hp
    · exact N _ hx
    · rcases List.mem_cons.mp hp with rfl | hp
      · exact N _ hy
      · rcases List.mem_cons.mp hp with rfl | hp
        · exact N _ hz
        · exact N _ hp
  subst hj hj'
  have h3 : (lo ++ [x]).length ≠ n ∧ (lo ++ [x]).length ≤ 1000 := by simp only [List.length_append, List.length_singleton]; omega
  have h4 : (lo.drop 1).length ≠ n ∧ (lo.drop 1).length ≤ 1000 := by simp only [List.length_drop]; omega
  have h5 : (le ++ [y]).length ≠ n ∧ (le ++ [y]).length ≤ 1000 := by simp only [List.length_append, List.length_singleton]; omega
  have h6 : (le.drop 1).length ≠ n ∧ (le.drop 1).length ≤ 1000 := by simp only [List.length_drop]; omega
  rcases List.mem_cons.mp hv with rfl | hv
  · exact ⟨t1, a0, e, va0, ve, lo ++ [x], le, na0, ne, k1, rfl, cons m1 ma0 me, ia0, ie, fun z => h3.1 z.1, h3.2, by omega, q1, qa0, qe⟩
  rcases List.mem_cons.mp hv with rfl | hv
  · exact ⟨t2, a1, e, va1, ve, lo.drop 1, le, na1, ne, k2, rfl, cons m2 ma1 me, ia1, ie, fun z => h4.1 z.1, h4.2, by omega, q2, qa1, qe⟩
  rcases List.mem_cons.mp hv with rfl | hv
  · exact ⟨t3, o, b2, vo, vb2, lo, le ++ [y], no, nb2, k3, rfl, cons m3 mo mb2, io, ib2, fun z => h5.1 z.2, by omega, h5.2, q3, qo, qb2⟩
  · obtain rfl := List.mem_singleton.mp hv
    exact ⟨t4, o, b3, vo, vb3, lo, le.drop 1, no, nb3, k4, rfl, cons m4 mo mb3, io, ib3, fun z => h6.1 z.2, by omega, h6.2, q4, qo, qb3⟩
theorem four {v : Value} {a b c d : Addr} (h : v ∈ [.ref a, .ref b, .ref c, .ref d]) : True := trivial
theorem two {v : Value} {a b : Addr} (h : v ∈ [.ref a, .ref b]) : True := trivial
theorem none_bnd {l : List Int} (h : ∀ r ∈ l, Bnd r 4) : ∀ r ∈ l, Bnd r 4 := h
theorem none_64 {l : List Int} (h : ∀ r ∈ l, Bnd r 64) : ∀ r ∈ l, Bnd r 64 := h
theorem g_first : verdict [1] [0] [0] 0 63 0 16 = Str.ofString "a bit place is from 0 to 15" := by decide +kernel
section
variable {w : World} {mean : ExcName → Option Value} {mg mb : Str → Option Value} {dp un : Nat} {gd : Option (List Code)} {cn : Str} {cs : Scope} {a : Addr} {ccd : Value} {cl : List (Str × Addr)} {A₀ : Around} {base h₀ : Heap} {L : Addr} {m : Str → Option Value} {news : List (Addr × Obj)} {s : Shared}
    {li tp l1 l2 ln : Addr} {vi v1 v2 vn : List Value} {ids one oth : List Int} {n0 n1 n2 nn nt : Nat} {p q u v : Int} {msg : Str} {Q E : Value → Shared → Prop}
theorem told_okV
    (B : Below A₀ base [] h₀) (F : Fr h₀ L s.heap m) (X : (hd.heap_39 w.params).In h₀) (N : News h₀ L s.heap news)
    (T : Top hd.view_39 (looseW hd.view_39 []) mean mg mb h₀) (hk : cs.kind = .function) (hdp : dp + 16 < recursionLimit)
    (hli : (li, listOf vi.toArray n0) ∈ news) (htp : (tp, { cls := .type "tuple", data := .seq #[.ref l1, .ref l2] nt }) ∈ news) (hl1 : (l1, listOf v1.toArray n1) ∈ news) (hl2 : (l2, listOf v2.toArray n2) ∈ news) (hln : (ln, listOf vn.toArray nn) ∈ news)
    (ii : IntsAre vi ids) (i1 : IntsAre v1 one) (i2 : IntsAre v2 oth) (iN : IntsAre vn [p, q, u, v]) (z0 : ids.length ≤ 1000) (z1 : one.length ≤ 1000) (z2 : oth.length ≤ 1000) (hv : verdict ids one oth p q u v = msg)
    (hret : ∀ (t : Tok) (h' : Heap) (tk' : Nat), Fr h₀ L h' m → News h₀ L h' news → Q (.str msg t) { s with heap := h', toks := tk' }) :
    wpAny (model PySem.Challenge.rw_xm0807_01.row.prog w) (ktrTop dp un gd cn cs L a ccd cl []) (call (.ref 116) [.ref li, .ref tp, .ref ln]) Q E s := by
  subst hv
  exact told_ok B F X N T hk hdp hli htp hl1 hl2 hln ii i1 i2 iN z0 z1 z2 hret
end
end Mine
-- Seg0
namespace Mine
/-- the law's own statements and scope, out of the row's program -/
def lawBody : List Stmt := match PySem.Challenge.pw_xm0807_01.main.body.reverse.head? with
  | some (.FunctionDef _ _ b _ _ _ _ _ _ _) => b
  | _ => []
def lawScope : Scope := match PySem.Challenge.pw_xm0807_01.main.body.reverse.head? with
  | some (.FunctionDef _ _ _ _ _ _ s _ _ _) => s
  | _ => default
theorem fr_reg {h₀ h : Heap} {L : Addr} {m : Str → Option Value} {x : Str} {v : Value} (F : Fr h₀ L h m) (e : m x = some v) : Fr h₀ L h (fun y => if y = x then some v else m y) := by
  have q : (fun y => if y = x then some v else m y) = m := by
    funext y
    by_cases hy : y = x
    · rw [if_pos hy, hy, e]
    · rw [if_neg hy]
  rw [q]; exact F
theorem ints_at {vs : List Value} {ns : List Int} (h : IntsAre vs ns) : ∀ {j : Nat}, j < ns.length → ∃ c t, vs[j]? = some (.int c t) ∧ ns[j]? = some c := by
  induction h with
  | nil => intro j hj; exact absurd hj (Nat.not_lt_zero _)
  | cons n t _ ih =>
    intro j hj
    cases j with
    | zero => exact ⟨n, t, rfl, rfl⟩
    | succ j =>
      obtain ⟨c, t', a, b⟩ := ih (j := j) (by simpa using hj)
      exact ⟨c, t', by simpa using a, by simpa using b⟩
/-- the item before, round about -/
def Before (ids : List Int) (k c : Int) : Prop := ∃ j, j < ids.length ∧ ids[j]? = some c ∧ j = if k.toNat = 0 then ids.length - 1 else k.toNat - 1
section
variable {prog : Program} {w : World} {A : Around} {E : Value → Shared → Prop} {s : Shared}
theorem item_wrap {value slice : PySem.Expr} {l : Addr} {vs : List Value} {ns : List Int} {k : Int} {u : Tok} {Q : Value → Shared → Prop} (hl : s.heap.IsList l vs.toArray) (hi : IntsAre vs ns) (hz : ns.length ≤ 1000) (b : Bnd k ns.length)
    (h : ∀ c t, Before ns k c → Q (.int c t) s) (hs : subscripted slice false (.ref l) (.int (k - 1) u) = operate [.ref l, .int (k - 1) u] (getItem (.ref l) (.int (k - 1) u)) := by with_unfolding_all rfl) :
    wpAny (model prog w) A (subscriptTail value slice (.ref l) (.int (k - 1) u)) Q E s := by
  obtain ⟨b0, b1⟩ := b
  have hlen : (List.toArray vs).size = ns.length := by rw [List.size_toArray]; exact hi.length
  by_cases hk : k = 0
  · obtain ⟨c, t, e1, e2⟩ := ints_at hi (j := ns.length - 1) (by omega)
    refine tail_any hl.typeIs slot_list_getitem.lookup (wpAny_getItem_list_neg hl (by omega) (by rw [hlen]; omega) (by omega) (x := .int c t) ?_ (h c t ⟨ns.length - 1, by omega, e2, by rw [hk]; rfl⟩)) hs
    rw [hlen]
    have e3 : (k - 1 + (ns.length : Int)).toNat = ns.length - 1 := by omega
    rw [e3]
    simpa using e1
  · obtain ⟨c, t, e1, e2⟩ := ints_at hi (j := k.toNat - 1) (by omega)
    refine tail_any hl.typeIs slot_list_getitem.lookup (wpAny_getItem_list hl (by omega) (by omega) (x := .int c t) ?_ (h c t ⟨k.toNat - 1, by omega, e2, by rw [if_neg (by omega)]⟩)) hs
    have e3 : (k - 1).toNat = k.toNat - 1 := by omega
    rw [e3]
    simpa using e1
end
section
variable {prog : Program} {w : World} {A : Around} {E : Value → Shared → Prop} {s : Shared} {h₀ : Heap} {L a : Addr} {name : Str} {scope : Scope} {cd : Value} {target : Expr} {body : List Stmt} {Q : Flow → Shared → Prop}
theorem For_turnsC {iter : Expr} {pos : Pos} {m : Str → Option Value} (F : Fr h₀ L s.heap m)
    (h : wpAny (model prog w) A (eval iter (envOfC name scope L a cd)) (fun xv s₁ => wpAny (model prog w) A (pyIter xv) (fun it s₂ => TurnsAt prog w A h₀ (envOfC name scope L a cd) target body Q E it s₂) E s₁) E s)
    (hs : ∀ x, foldedSetIterable iter (envOfC name scope L a cd) x = pure x)
    (hE : PassesOwn (model prog w) A (envOfC name scope L a cd) E) :
    wpAny (model prog w) A (exec (.For target iter body [] pos) (envOfC name scope L a cd)) Q E s := For_turns F h hs hE
end
section
variable {ids one oth : List Int} {p q u v c k : Int}
theorem vA1 (h : (1 : Int) < ids.length) (G : Good ids one oth p q u v) (b : Bnd k ids.length) (hb : Before ids k c) : verdict (ids.set k.toNat c) one oth p q u v = Str.ofString "a component stands twice in a scan" := by
  obtain ⟨j, h1, h2, h3⟩ := hb
  rw [g_again G (bnd_nat b) h1 h2 h3, if_pos h]
theorem vA2 (h : ¬ (1 : Int) < ids.length) (G : Good ids one oth p q u v) (b : Bnd k ids.length) (hb : Before ids k c) : verdict (ids.set k.toNat c) one oth p q u v = Str.ofString "" := by
  obtain ⟨j, h1, h2, h3⟩ := hb
  rw [g_again G (bnd_nat b) h1 h2 h3, if_neg h]
end
/-- a goal set aside -/
def Hold (P : Prop) : Prop := P
theorem hold_out {P : Prop} (h : Hold P) : P := h
theorem news_sub {h₀ h : Heap} {L : Addr} {l all : List (Addr × Obj)} (N : News h₀ L h all) (s : SubL l all) : News h₀ L h l := fun p hp => N p (s.mem p hp)
theorem ite_bne {a : Str} {p q : Prop} (h : q) : if (a != a) = true then p else q := by
  rw [if_neg (by simp)]; exact h
/-- a tree set aside -/
def hid {α : Type} (t : Sem α) : Sem α := t
theorem hid_out {α : Type} {M : Model} {A : Around} {t : Sem α} {Q : α → Shared → Prop} {E : Value → Shared → Prop} {s : Shared} (h : wpAny M A (hid t) Q E s) : wpAny M A t Q E s := h
theorem hid_in {α : Type} {M : Model} {A : Around} {t : Sem α} {Q : α → Shared → Prop} {E : Value → Shared → Prop} {s : Shared} (h : wpAny M A t Q E s) : wpAny M A (hid t) Q E s := h
end Mine
-- Segs
namespace Mine
section
section
/-- where a loop's iterator lies -/
def ItAt (c : Nat) : Prop := c = c
theorem it_mark {c src : Nat} (h : @Ne Nat c src) : ItAt c := rfl
theorem conj_offi {a D c : Nat} {P : Prop} (hc : ItAt c) (l : @LT.lt Nat _ a D ∧ P) (k : @LT.lt Nat _ c D) : Off D c := Nat.ne_of_gt k
theorem law_value (e : WCtx) (h : e.res = some (.bool true)) : WTm.value [] (.eq .res (.lit (.bool true))) e = some (.bool true) := by
  simp only [WTm.value, h]
  rw [show same (WData.bool true) (WData.bool true) = true from by simp [same]]
theorem law_post (l : OpenLaw) (args : List WData) : l.row.claim.post args (.bool true) args = true := postW_of (X := true) rfl (law_value _ rfl) rfl
theorem law_raises (l : OpenLaw) (args : List WData) (cls : ExcName) : l.row.claim.raises args cls = false := rfl
theorem end_true {c : ClaimW} {cl : Str → Option Addr} {mean : ExcName → Option Value} {args : List WData} {s₁ s : Shared} {L : Addr} {m' : Str → Option Value} {h' : Heap} {tk' : Nat} (F : Fr s₁.heap L h' m') (hg : s.gens = #[]) (hos : s.os = s₁.os)
    (hn : ∀ cls, c.raises args cls = false) (hp : c.post args (.bool true) args = true) : GoodW c cl mean args s₁ (.ok (.ret (.bool true))) { s with heap := h', toks := tk' } := goodW_bool F hg hn hp hos
local macro_rules | `(tactic| walk_at "call ref") => `(tactic| (k_here; (with_reducible show wpAny _ _ (call (Value.ref 116) _) _ _ _); k_dflt (refine' told_okV ?B ?F ?X ?N ?T ?hk ?hd ?h1 ?h2 ?h3 ?h4 ?h5 ?i1 ?i2 ?i3 ?i4 ?z1 ?z2 ?z3 ?hv ?_; (case B => k_asm); (case F => k_asm); (case X => k_asm); (case N => k_asm); (case T => k_asm); (case hk => exact rfl); (case hd => ktr_room); (case h1 => k_mem); (case h2 => k_mem); (case h3 => k_mem); (case h4 => k_mem); (case h5 => k_mem); (case i1 => first | assumption | l_ints); (case i2 => first | assumption | l_ints); (case i3 => first | assumption | l_ints); (case i4 => first | assumption | l_ints); (case z1 => first | omega | decide | exact Nat.le_of_ble_eq_true rfl | (simp only [List.length_set]; omega)); (case z2 => first | omega | decide | exact Nat.le_of_ble_eq_true rfl | (simp only [List.length_set]; omega)); (case z3 => first | omega | decide | exact Nat.le_of_ble_eq_true rfl | (simp only [List.length_set]; omega)); (case hv => first | with_reducible exact g_first | with_reducible exact g_none | with_reducible exact g_five | with_reducible exact g_ok (by assumption) | with_reducible exact g_longer (by assumption) (by assumption) | with_reducible exact vA1 (by assumption) (by assumption) (by assumption) (by assumption) | with_reducible exact vA2 (by assumption) (by assumption) (by assumption) (by assumption) | with_reducible exact vN (by assumption) (by assumption) (by assumption) | with_reducible exact vS1 (by assumption) (by assumption) (by assumption) | with_reducible exact vS2 (by assumption) (by assumption) (by assumption) | with_reducible exact vB0 (by assumption) (by assumption) | with_reducible exact vB1 (by assumption) (by assumption) | with_reducible exact vP2 (by assumption) (by assumption) | with_reducible exact vP3 (by assumption) (by assumption))); intro t' h' tk' F' N'))
local macro_rules | `(tactic| walk_at "call ref") => `(tactic| (k_here; (with_reducible show wpAny _ _ (call (Value.ref 109) _) _ _ _); k_dflt (refine' one_okU ?B ?F ?X ?N ?T ?hk ?U ?hl ?hls ?h0 ?h1 ?hd ?_; (case B => k_asm); (case F => k_asm); (case X => k_asm); (case N => k_asm); (case T => k_asm); (case hk => exact rfl); (case hd => ktr_room); (case U => k_updF); (case hl => k_mem); (case hls => k_ne); (case h0 => exact Nat.le_of_ble_eq_true rfl); (case h1 => exact Nat.le_of_ble_eq_true rfl)); intro v' x' y' tx' ty' h' tk' hv' F' N'; (try dsimp only at N'); (first | (obtain ⟨f', t', e', hf'⟩ := pick_int (by l_ints) hv'; clear hv'; subst e') | skip)))
local macro_rules | `(tactic| walk_at "call ref") => `(tactic| (k_here; (with_reducible show wpAny _ _ (call (Value.ref 102) _) _ _ _); k_dflt (refine' take_okU ?B ?F ?X ?N ?T ?hk ?U ?ht ?h6 ?hd ?_; (case B => k_asm); (case F => k_asm); (case X => k_asm); (case N => k_asm); (case T => k_asm); (case hk => exact rfl); (case hd => ktr_room); (case U => k_updF); (case ht => first | decide | omega); (case h6 => first | decide | omega)); intro r' x' y' t' tx' ty' h' tk' ha' hb' F' N'; (try dsimp only at N'); (have hB' := bnd ha' hb'); clear ha' hb'))
local macro_rules | `(tactic| walk_at "call builtin:len") => `(tactic| (k_here; k_dflt (refine' len_led ?N ?m ?i ?l ?_; (case N => k_asm); (case m => k_mem); (case i => assumption); (case l => omega); k_whole)))
local macro_rules | `(tactic| lcg_off) => `(tactic| ((rename (_ ∧ _) => z'); (refine And.elim (fun z1' z2' => ?_) z'); clear z'; first | exact z1' | exact z2' | (clear z1'; lcg_off)))
local macro_rules | `(tactic| k_ne) => `(tactic| (refine neN ?_; (try dsimp only); with_reducible (first | (refine Off.ne ?_; assumption) | (refine Off.ne' ?_; assumption) | assumption | (refine Ne.symm ?_; assumption) | (refine Nat.ne_of_gt ?_; lcg_off) | (refine Nat.ne_of_lt ?_; lcg_off))))
local macro_rules | `(tactic| walk_at "FinE") => `(tactic| ((unfold LCg.FinE); intro D' h' tk' F' N' o1'; (try dsimp only at o1'); k_dflt (have s1' := off_of (off1_src (by assumption) o1' (by k_mem))); clear o1'; (try simp only [List.nil_append, List.cons_append] at N'); (try dsimp only)))
local macro_rules | `(tactic| walk_at "FinA") => `(tactic| ((unfold LCg.FinA); intro D' h' tk' F' N' o1'; (try dsimp only at o1'); k_dflt (have s1' := off_of (off1_src (by assumption) o1' (by k_mem))); clear o1'; (try simp only [List.nil_append, List.cons_append] at N'); (try dsimp only)))
local macro_rules | `(tactic| walk_at "call ref") => `(tactic| (k_here; (with_reducible show wpAny _ _ (call (Value.ref 123) _) _ _ _); k_dflt (refine' with_ok ?B ?F ?X ?N ?T ?hk ?hl ?hi ?hz ?k0 ?k1 ?hd ?_; (case B => k_asm); (case F => k_asm); (case X => k_asm); (case N => k_asm); (case T => k_asm); (case hk => exact rfl); (case hd => ktr_room); (case hl => k_mem); (case hi => assumption); (case hz => first | omega | exact Nat.le_of_ble_eq_true rfl); (case k0 => first | decide | exact bnd_lo (by assumption)); (case k1 => first | exact bnd_hi (by assumption) | exact bnd_len (by assumption) (by assumption) | exact of_decide_eq_true rfl)); intro r' vs' n' h' tk' hI' l1 F' N'; (try k_lt l1)))
local macro_rules | `(tactic| walk_at "spliced") => `(tactic| (k_here; (rename (@LT.lt Nat _ _ _ ∧ _) => z'); (have hs' := conj_off (by assumption) z' (by lcg_off)); (try (have hs2' := conj_offc (by assumption) z' (by lcg_off))); (try (have hs3' := conj_offi (by assumption) z' (by lcg_off))); clear z'))
local macro_rules | `(tactic| walk_at "storeName") => `(tactic| (k_here; (rename (@LT.lt Nat _ _ _ ∧ _) => z'); (have hs' := conj_off (by assumption) z' (by lcg_off)); (try (have hs2' := conj_offc (by assumption) z' (by lcg_off))); (try (have hs3' := conj_offi (by assumption) z' (by lcg_off))); clear z'))
local macro_rules | `(tactic| walk_at "call ref") => `(tactic| (k_here; (rename (@LT.lt Nat _ _ _ ∧ _) => z'); (have hs' := conj_off (by assumption) z' (by lcg_off)); (try (have hs2' := conj_offc (by assumption) z' (by lcg_off))); (try (have hs3' := conj_offi (by assumption) z' (by lcg_off))); clear z'))
local macro_rules | `(tactic| walk_at "binaryOp Add ref ref") => `(tactic| (k_here; (rename (@LT.lt Nat _ _ _ ∧ _) => z'); (have hs' := conj_off (by assumption) z' (by lcg_off)); (try (have hs2' := conj_offc (by assumption) z' (by lcg_off))); (try (have hs3' := conj_offi (by assumption) z' (by lcg_off))); clear z'))
local macro_rules | `(tactic| walk_at "exec For Tuple List cons nil") => `(tactic| (k_here; (rename Fr _ _ _ _ => lF'); (refine' For_turnsC lF' ?_ ?hs ?hE; (case hs => k_dflt (intro _; rfl)); (case hE => assumption))))
local macro_rules | `(tactic| walk_at "exec For Tuple Name cons nil") => `(tactic| (k_here; (rename Fr _ _ _ _ => lF'); (refine' For_turnsC lF' ?_ ?hs ?hE; (case hs => k_dflt (intro _; rfl)); (case hE => assumption))))
local macro_rules | `(tactic| walk_at "ite") => `(tactic| (k_closed; with_reducible refine ite_bne ?_))
section
variable {w : World} {mean : ExcName → Option Value} {mg mb : Str → Option Value} {fa : Addr} {cd : Value} {h₀ : Heap} {L : Addr} {m : Str → Option Value} {s : Shared} {src li t l1 l2 ln : Addr} {vi v1 v2 vn : List Value} {ids one oth : List Int} {body : List Stmt} {scope : Scope} {n0 n1 n2 nn nt : Nat} {p q u v x y k : Int} {tx ty tm tk : Tok} {oc : Obj}
  {Q : Flow → Shared → Prop} {E : Value → Shared → Prop}
theorem seg4
    (B : Below callerA h₀ [] h₀) (F : Fr h₀ L s.heap m) (X : (hd.heap_39 w.params).In h₀) (T : Top hd.view_39 (looseW hd.view_39 []) mean mg mb h₀)
    (N : News h₀ L s.heap [(src, pairObj x y tx ty 0), (ln, listOf (List.toArray vn) nn), (t, { cls := .type "tuple", data := .seq #[.ref l1, .ref l2] nt }), (l2, listOf (List.toArray v2) n2), (l1, listOf (List.toArray v1) n1), (li, listOf (List.toArray vi) n0), (L + 1, oc)])
    (hc : oc.data = .cell (some (.ref src))) (hi : IntsAre vi ids) (h1 : IntsAre v1 one) (h2 : IntsAre v2 oth) (hn : IntsAre vn [p, q, u, v]) (good : Good ids one oth p q u v) (cell : CellAt (L + 1))
    (o1 : Off ln src) (o2 : Off t src) (o3 : Off l2 src) (o4 : Off l1 src) (o5 : Off li src) (o6 : Off (L + 1) src)
    (mi : m (Str.ofString "idents") = some (.ref li)) (mt : m (Str.ofString "slots") = some (.ref t)) (mn : m (Str.ofString "numbers") = some (.ref ln))
    (hb : body = lawBody.drop 19) (hsc : scope = lawScope) (hE : PassesOwn (model PySem.Challenge.rw_xm0807_01.row.prog w) (callerA.deeper (envOfC (Str.ofString "law") scope L fa cd)) (envOfC (Str.ofString "law") scope L fa cd) E) (ret : ∀ m' h' tk', Fr h₀ L h' m' → Q (.ret (.bool true)) { s with heap := h', toks := tk' }) :
    wpAny (model PySem.Challenge.rw_xm0807_01.row.prog w) (callerA.deeper (envOfC (Str.ofString "law") scope L fa cd)) (execs body (envOfC (Str.ofString "law") scope L fa cd)) Q E s := by
  subst hb hsc
  have f1 := fr_reg (x := Str.ofString "numbers") (fr_reg (x := Str.ofString "slots") (fr_reg (x := Str.ofString "idents") F mi) (by exact mt)) (by exact mn)
  clear F
  have gl := good.c1
  have gl1 := good.c2.1
  have gl2 := good.c2.2
  dsimp only [lawBody, lawScope, PySem.Challenge.pw_xm0807_01, List.reverse, List.reverseAux, List.head?, List.drop] at hE ⊢
  k_steps
  all_goals exact ret _ _ _ (by k_asm)
end
local macro_rules | `(tactic| walk_at "subscriptTail") => `(tactic| (k_here; (with_reducible show wpAny _ _ (subscriptTail _ _ (Value.ref _) (Value.int (_ - 1) _)) _ _ _); k_dflt (refine' item_wrap (PySem.IsL.isList (News.get ?N ?m)) ?i ?z ?b ?_ ?k6; (case N => k_asm); (case m => k_mem); (case i => assumption); (case z => omega); (case b => assumption); (case k6 => with_unfolding_all rfl)); intro c' t' hb'))
local macro_rules | `(tactic| walk_at "execs cons") => `(tactic| (k_here; (with_reducible show wpAny _ _ (execs (Stmt.For (Expr.Tuple _ _ _) (Expr.List _ _) _ _ _ :: _) _) _ _ _); with_reducible refine hid_out ?_))
section
variable {w : World} {mean : ExcName → Option Value} {mg mb : Str → Option Value} {fa : Addr} {cd : Value} {h₀ : Heap} {L : Addr} {m : Str → Option Value} {s : Shared} {src li t l1 l2 ln : Addr} {vi v1 v2 vn : List Value} {ids one oth : List Int} {body : List Stmt} {scope : Scope} {n0 n1 n2 nn nt : Nat} {p q u v x y k : Int} {tx ty tm tk : Tok} {oc : Obj}
  {Q : Flow → Shared → Prop} {E : Value → Shared → Prop}
theorem seg3
    (B : Below callerA h₀ [] h₀) (F : Fr h₀ L s.heap m) (X : (hd.heap_39 w.params).In h₀) (T : Top hd.view_39 (looseW hd.view_39 []) mean mg mb h₀)
    (N : News h₀ L s.heap [(src, pairObj x y tx ty 0), (ln, listOf (List.toArray vn) nn), (t, { cls := .type "tuple", data := .seq #[.ref l1, .ref l2] nt }), (l2, listOf (List.toArray v2) n2), (l1, listOf (List.toArray v1) n1), (li, listOf (List.toArray vi) n0), (L + 1, oc)])
    (hc : oc.data = .cell (some (.ref src))) (hi : IntsAre vi ids) (h1 : IntsAre v1 one) (h2 : IntsAre v2 oth) (hn : IntsAre vn [p, q, u, v]) (good : Good ids one oth p q u v) (cell : CellAt (L + 1))
    (o1 : Off ln src) (o2 : Off t src) (o3 : Off l2 src) (o4 : Off l1 src) (o5 : Off li src) (o6 : Off (L + 1) src)
    (mi : m (Str.ofString "idents") = some (.ref li)) (mt : m (Str.ofString "slots") = some (.ref t)) (mn : m (Str.ofString "numbers") = some (.ref ln))
    (mm : m (Str.ofString "many") = some (.int (ids.length : Int) tm)) (mp : m (Str.ofString "place") = some (.int k tk)) (hk : Bnd k ids.length)
    (hb : body = lawBody.drop 17) (hsc : scope = lawScope) (hE : PassesOwn (model PySem.Challenge.rw_xm0807_01.row.prog w) (callerA.deeper (envOfC (Str.ofString "law") scope L fa cd)) (envOfC (Str.ofString "law") scope L fa cd) E) (ret : ∀ m' h' tk', Fr h₀ L h' m' → Q (.ret (.bool true)) { s with heap := h', toks := tk' }) :
    wpAny (model PySem.Challenge.rw_xm0807_01.row.prog w) (callerA.deeper (envOfC (Str.ofString "law") scope L fa cd)) (execs body (envOfC (Str.ofString "law") scope L fa cd)) Q E s := by
  subst hb hsc
  have f1 := fr_reg (x := Str.ofString "numbers") (fr_reg (x := Str.ofString "slots") (fr_reg (x := Str.ofString "idents") F mi) (by exact mt)) (by exact mn)
  replace f1 := fr_reg (x := Str.ofString "place") (fr_reg (x := Str.ofString "many") f1 (by exact mm)) (by exact mp)
  clear F
  have gl := good.c1
  have gl1 := good.c2.1
  have gl2 := good.c2.2
  dsimp only [lawBody, lawScope, PySem.Challenge.pw_xm0807_01, List.reverse, List.reverseAux, List.head?, List.drop] at hE ⊢
  by_cases hone : (1 : Int) < ids.length
  · k_steps
    all_goals ((with_reducible refine hid_in ?_); (with_reducible refine' seg4 B ?F X T ?N hc hi h1 h2 hn good cell o1 o2 o3 o4 o5 o6 ?mi ?mt ?mn  ?hb ?hs hE ret); (case F => k_asm); (case N => exact news_sub (by k_asm) (by k_subL)); (case mi => exact rfl); (case mt => exact rfl); (case mn => exact rfl); (case hb => exact rfl); (case hs => exact rfl))
  · k_steps
    all_goals ((with_reducible refine hid_in ?_); (with_reducible refine' seg4 B ?F X T ?N hc hi h1 h2 hn good cell o1 o2 o3 o4 o5 o6 ?mi ?mt ?mn  ?hb ?hs hE ret); (case F => k_asm); (case N => exact news_sub (by k_asm) (by k_subL)); (case mi => exact rfl); (case mt => exact rfl); (case mn => exact rfl); (case hb => exact rfl); (case hs => exact rfl))
end
local macro_rules | `(tactic| walk_at "execs cons") => `(tactic| (k_here; (with_reducible show wpAny _ _ (execs (Stmt.Assign [Expr.Name "again" _] _ _ :: _) _) _ _ _); with_reducible refine hid_out ?_))
section
variable {w : World} {mean : ExcName → Option Value} {mg mb : Str → Option Value} {fa : Addr} {cd : Value} {h₀ : Heap} {L : Addr} {m : Str → Option Value} {s : Shared} {src li t l1 l2 ln : Addr} {vi v1 v2 vn : List Value} {ids one oth : List Int} {body : List Stmt} {scope : Scope} {n0 n1 n2 nn nt : Nat} {p q u v x y k : Int} {tx ty tm tk : Tok} {oc : Obj}
  {Q : Flow → Shared → Prop} {E : Value → Shared → Prop}
variable {tl la lb : Addr} {ntl na nb : Nat} {va vb : List Value} {aa bb : List Int}
theorem seg2b
    (B : Below callerA h₀ [] h₀) (F : Fr h₀ L s.heap m) (X : (hd.heap_39 w.params).In h₀) (T : Top hd.view_39 (looseW hd.view_39 []) mean mg mb h₀)
    (N : News h₀ L s.heap [(src, pairObj x y tx ty 0), (tl, { cls := .type "tuple", data := .seq #[.ref la, .ref lb] ntl }), (la, listOf (List.toArray va) na), (lb, listOf (List.toArray vb) nb), (ln, listOf (List.toArray vn) nn), (t, { cls := .type "tuple", data := .seq #[.ref l1, .ref l2] nt }), (l2, listOf (List.toArray v2) n2), (l1, listOf (List.toArray v1) n1), (li, listOf (List.toArray vi) n0), (L + 1, oc)])
    (hc : oc.data = .cell (some (.ref src))) (hi : IntsAre vi ids) (h1 : IntsAre v1 one) (h2 : IntsAre v2 oth) (hn : IntsAre vn [p, q, u, v]) (good : Good ids one oth p q u v) (cell : CellAt (L + 1))
    (o1 : Off ln src) (o2 : Off t src) (o3 : Off l2 src) (o4 : Off l1 src) (o5 : Off li src) (o6 : Off (L + 1) src)
    (mi : m (Str.ofString "idents") = some (.ref li)) (mt : m (Str.ofString "slots") = some (.ref t)) (mn : m (Str.ofString "numbers") = some (.ref ln))
    (mm : m (Str.ofString "many") = some (.int (ids.length : Int) tm)) (m1 : m (Str.ofString "one") = some (.ref l1)) (m2 : m (Str.ofString "other") = some (.ref l2)) (ml : m (Str.ofString "longer") = some (.ref tl)) (mp : m (Str.ofString "place") = some (.int k tk)) (hk : Bnd k ids.length)
    (ha : IntsAre va aa) (hb' : IntsAre vb bb) (hno : ¬ (aa.length = ids.length ∧ bb.length = ids.length)) (za : aa.length ≤ 1000) (zb : bb.length ≤ 1000) (o7 : Off tl src) (o8 : Off la src) (o9 : Off lb src)
    (hb : body = lawBody.drop 14) (hsc : scope = lawScope) (hE : PassesOwn (model PySem.Challenge.rw_xm0807_01.row.prog w) (callerA.deeper (envOfC (Str.ofString "law") scope L fa cd)) (envOfC (Str.ofString "law") scope L fa cd) E) (ret : ∀ m' h' tk', Fr h₀ L h' m' → Q (.ret (.bool true)) { s with heap := h', toks := tk' }) :
    wpAny (model PySem.Challenge.rw_xm0807_01.row.prog w) (callerA.deeper (envOfC (Str.ofString "law") scope L fa cd)) (execs body (envOfC (Str.ofString "law") scope L fa cd)) Q E s := by
  subst hb hsc
  have f1 := fr_reg (x := Str.ofString "numbers") (fr_reg (x := Str.ofString "slots") (fr_reg (x := Str.ofString "idents") F mi) (by exact mt)) (by exact mn)
  replace f1 := fr_reg (x := Str.ofString "place") (fr_reg (x := Str.ofString "longer") (fr_reg (x := Str.ofString "other") (fr_reg (x := Str.ofString "one") (fr_reg (x := Str.ofString "many") f1 (by exact mm)) (by exact m1)) (by exact m2)) (by exact ml)) (by exact mp)
  clear F
  have gl := good.c1
  have gl1 := good.c2.1
  have gl2 := good.c2.2
  dsimp only [lawBody, lawScope, PySem.Challenge.pw_xm0807_01, List.reverse, List.reverseAux, List.head?, List.drop] at hE ⊢
  k_steps
  all_goals ((with_reducible refine hid_in ?_); (with_reducible refine' seg3 B ?F X T ?N hc hi h1 h2 hn good cell o1 o2 o3 o4 o5 o6 ?mi ?mt ?mn ?mm ?mp ?bk ?hb ?hs hE ret); (case F => k_asm); (case N => exact news_sub (by k_asm) (by k_subL)); (case mi => exact rfl); (case mt => exact rfl); (case mn => exact rfl); (case mm => exact rfl); (case mp => exact rfl); (case bk => assumption); (case hb => exact rfl); (case hs => exact rfl))
end
local macro_rules | `(tactic| walk_at "call ref") => `(tactic| (k_here; (with_reducible show wpAny _ _ (call (Value.ref 109) _) _ _ _); k_dflt (refine' one_okU (vs := [.ref _, .ref _, .ref _, .ref _]) ?B ?F ?X ?N ?T ?hk ?U ?hl ?hls ?h0 ?h1 ?hd ?_; (case N => k_asm); (case hl => k_mem); (case B => k_asm); (case F => k_asm); (case X => k_asm); (case T => k_asm); (case hk => exact rfl); (case hd => ktr_room); (case U => k_updF); (case hls => k_ne); (case h0 => exact Nat.le_of_ble_eq_true rfl); (case h1 => exact Nat.le_of_ble_eq_true rfl)); intro v' x' y' tx' ty' h' tk' hv' F' N'; (try dsimp only at N'); k_dflt (refine' Exists.elim (pick_longer ?hc hv' N' ?m1 ?m2 ?m3 ?m4 ?mo ?me ?ma0 ?ma1 ?mb2 ?mb3 ?io ?ie ?ia0 ?ia1 ?ib2 ?ib3 ?g1 ?g2 ?hj ?hjj ?hn ?q1 ?q2 ?q3 ?q4 ?qo ?qe ?qa0 ?qa1 ?qb2 ?qb3) ?_; (case hc => assumption); (case m1 => k_mem); (case m2 => k_mem); (case m3 => k_mem); (case m4 => k_mem); (case mo => k_mem); (case me => k_mem); (case ma0 => k_mem); (case ma1 => k_mem); (case mb2 => k_mem); (case mb3 => k_mem); (case io => assumption); (case ie => assumption); (case ia0 => assumption); (case ia1 => assumption); (case ib2 => assumption); (case ib3 => assumption); (case g1 => assumption); (case g2 => assumption); (case hj => rfl); (case hjj => rfl); (case hn => assumption); (case q1 => k_ne); (case q2 => k_ne); (case q3 => k_ne); (case q4 => k_ne); (case qo => k_ne); (case qe => k_ne); (case qa0 => k_ne); (case qa1 => k_ne); (case qb2 => k_ne); (case qb3 => k_ne)); intro T' hE'; obtain ⟨a', b', va', vb', la', lb', na', nb', k', e', N'', i1', i2', hno', z1', z2', s1', s2', s3'⟩ := hE'; (replace s1' := off_of s1'); (replace s2' := off_of s2'); (replace s3' := off_of s3'); clear hv' N'; subst e'))
local macro_rules | `(tactic| walk_at "execs cons") => `(tactic| (k_here; (with_reducible show wpAny _ _ (execs (Stmt.Assign [Expr.Tuple [Expr.Name "slot" _, _] _ _] _ _ :: _) _) _ _ _); with_reducible refine hid_out ?_))
section
variable {w : World} {mean : ExcName → Option Value} {mg mb : Str → Option Value} {fa : Addr} {cd : Value} {h₀ : Heap} {L : Addr} {m : Str → Option Value} {s : Shared} {src li t l1 l2 ln : Addr} {vi v1 v2 vn : List Value} {ids one oth : List Int} {body : List Stmt} {scope : Scope} {n0 n1 n2 nn nt : Nat} {p q u v x y k : Int} {tx ty tm tk : Tok} {oc : Obj}
  {Q : Flow → Shared → Prop} {E : Value → Shared → Prop}
theorem seg2
    (B : Below callerA h₀ [] h₀) (F : Fr h₀ L s.heap m) (X : (hd.heap_39 w.params).In h₀) (T : Top hd.view_39 (looseW hd.view_39 []) mean mg mb h₀)
    (N : News h₀ L s.heap [(src, pairObj x y tx ty 0), (ln, listOf (List.toArray vn) nn), (t, { cls := .type "tuple", data := .seq #[.ref l1, .ref l2] nt }), (l2, listOf (List.toArray v2) n2), (l1, listOf (List.toArray v1) n1), (li, listOf (List.toArray vi) n0), (L + 1, oc)])
    (hc : oc.data = .cell (some (.ref src))) (hi : IntsAre vi ids) (h1 : IntsAre v1 one) (h2 : IntsAre v2 oth) (hn : IntsAre vn [p, q, u, v]) (good : Good ids one oth p q u v) (cell : CellAt (L + 1))
    (o1 : Off ln src) (o2 : Off t src) (o3 : Off l2 src) (o4 : Off l1 src) (o5 : Off li src) (o6 : Off (L + 1) src)
    (mi : m (Str.ofString "idents") = some (.ref li)) (mt : m (Str.ofString "slots") = some (.ref t)) (mn : m (Str.ofString "numbers") = some (.ref ln))
    (mm : m (Str.ofString "many") = some (.int (ids.length : Int) tm)) (m1 : m (Str.ofString "one") = some (.ref l1)) (m2 : m (Str.ofString "other") = some (.ref l2))
    (hb : body = lawBody.drop 12) (hsc : scope = lawScope) (hE : PassesOwn (model PySem.Challenge.rw_xm0807_01.row.prog w) (callerA.deeper (envOfC (Str.ofString "law") scope L fa cd)) (envOfC (Str.ofString "law") scope L fa cd) E) (ret : ∀ m' h' tk', Fr h₀ L h' m' → Q (.ret (.bool true)) { s with heap := h', toks := tk' }) :
    wpAny (model PySem.Challenge.rw_xm0807_01.row.prog w) (callerA.deeper (envOfC (Str.ofString "law") scope L fa cd)) (execs body (envOfC (Str.ofString "law") scope L fa cd)) Q E s := by
  subst hb hsc
  have f1 := fr_reg (x := Str.ofString "numbers") (fr_reg (x := Str.ofString "slots") (fr_reg (x := Str.ofString "idents") F mi) (by exact mt)) (by exact mn)
  replace f1 := fr_reg (x := Str.ofString "other") (fr_reg (x := Str.ofString "one") (fr_reg (x := Str.ofString "many") f1 (by exact mm)) (by exact m1)) (by exact m2)
  clear F
  have gl := good.c1
  have gl1 := good.c2.1
  have gl2 := good.c2.2
  dsimp only [lawBody, lawScope, PySem.Challenge.pw_xm0807_01, List.reverse, List.reverseAux, List.head?, List.drop] at hE ⊢
  k_steps
  all_goals ((with_reducible refine hid_in ?_); (with_reducible refine' seg2b B ?F X T ?N hc hi h1 h2 hn good cell o1 o2 o3 o4 o5 o6 ?mi ?mt ?mn ?mm ?m1 ?m2 ?ml ?mp ?bk ?ha ?hb2 ?hno ?za ?zb ?o7 ?o8 ?o9 ?hb ?hs hE ret); (case F => k_asm); (case mi => exact rfl); (case mt => exact rfl); (case mn => exact rfl); (case mm => exact rfl); (case m1 => exact rfl); (case m2 => exact rfl); (case mp => exact rfl); (case ml => exact rfl); (case N => exact news_sub (by k_asm) (by k_subL)); (case ha => assumption); (case hb2 => assumption); (case hno => assumption); (case za => assumption); (case zb => assumption); (case o7 => assumption); (case o8 => assumption); (case o9 => assumption); (case bk => assumption); (case hb => exact rfl); (case hs => exact rfl))
end
local macro_rules | `(tactic| walk_at "execs cons") => `(tactic| (k_here; (with_reducible show wpAny _ _ (execs (Stmt.Assign [Expr.Name "place" _] _ _ :: _) _) _ _ _); with_reducible refine hid_out ?_))
section
variable {w : World} {mean : ExcName → Option Value} {mg mb : Str → Option Value} {fa : Addr} {cd : Value} {h₀ : Heap} {L : Addr} {m : Str → Option Value} {s : Shared} {src li t l1 l2 ln : Addr} {vi v1 v2 vn : List Value} {ids one oth : List Int} {body : List Stmt} {scope : Scope} {n0 n1 n2 nn nt : Nat} {p q u v x y k : Int} {tx ty tm tk : Tok} {oc : Obj}
  {Q : Flow → Shared → Prop} {E : Value → Shared → Prop}
theorem seg1
    (B : Below callerA h₀ [] h₀) (F : Fr h₀ L s.heap m) (X : (hd.heap_39 w.params).In h₀) (T : Top hd.view_39 (looseW hd.view_39 []) mean mg mb h₀)
    (N : News h₀ L s.heap [(src, pairObj x y tx ty 0), (ln, listOf (List.toArray vn) nn), (t, { cls := .type "tuple", data := .seq #[.ref l1, .ref l2] nt }), (l2, listOf (List.toArray v2) n2), (l1, listOf (List.toArray v1) n1), (li, listOf (List.toArray vi) n0), (L + 1, oc)])
    (hc : oc.data = .cell (some (.ref src))) (hi : IntsAre vi ids) (h1 : IntsAre v1 one) (h2 : IntsAre v2 oth) (hn : IntsAre vn [p, q, u, v]) (good : Good ids one oth p q u v) (cell : CellAt (L + 1))
    (o1 : Off ln src) (o2 : Off t src) (o3 : Off l2 src) (o4 : Off l1 src) (o5 : Off li src) (o6 : Off (L + 1) src)
    (mi : m (Str.ofString "idents") = some (.ref li)) (mt : m (Str.ofString "slots") = some (.ref t)) (mn : m (Str.ofString "numbers") = some (.ref ln))
    (mm : m (Str.ofString "many") = some (.int (ids.length : Int) tm)) (m1 : m (Str.ofString "one") = some (.ref l1)) (m2 : m (Str.ofString "other") = some (.ref l2))
    (hb : body = lawBody.drop 9) (hsc : scope = lawScope) (hE : PassesOwn (model PySem.Challenge.rw_xm0807_01.row.prog w) (callerA.deeper (envOfC (Str.ofString "law") scope L fa cd)) (envOfC (Str.ofString "law") scope L fa cd) E) (ret : ∀ m' h' tk', Fr h₀ L h' m' → Q (.ret (.bool true)) { s with heap := h', toks := tk' }) :
    wpAny (model PySem.Challenge.rw_xm0807_01.row.prog w) (callerA.deeper (envOfC (Str.ofString "law") scope L fa cd)) (execs body (envOfC (Str.ofString "law") scope L fa cd)) Q E s := by
  subst hb hsc
  have f1 := fr_reg (x := Str.ofString "numbers") (fr_reg (x := Str.ofString "slots") (fr_reg (x := Str.ofString "idents") F mi) (by exact mt)) (by exact mn)
  replace f1 := fr_reg (x := Str.ofString "other") (fr_reg (x := Str.ofString "one") (fr_reg (x := Str.ofString "many") f1 (by exact mm)) (by exact m1)) (by exact m2)
  clear F
  have gl := good.c1
  have gl1 := good.c2.1
  have gl2 := good.c2.2
  dsimp only [lawBody, lawScope, PySem.Challenge.pw_xm0807_01, List.reverse, List.reverseAux, List.head?, List.drop] at hE ⊢
  k_steps
  all_goals ((with_reducible refine hid_in ?_); (with_reducible refine' seg2 B ?F X T ?N hc hi h1 h2 hn good cell o1 o2 o3 o4 o5 o6 ?mi ?mt ?mn ?mm ?m1 ?m2 ?hb ?hs hE ret); (case F => k_asm); (case N => exact news_sub (by k_asm) (by k_subL)); (case mi => exact rfl); (case mt => exact rfl); (case mn => exact rfl); (case mm => exact rfl); (case m1 => exact rfl); (case m2 => exact rfl); (case hb => exact rfl); (case hs => exact rfl))
end
local macro_rules | `(tactic| walk_at "call ref") => `(tactic| (k_here; (with_reducible show wpAny _ _ (call (Value.ref 109) _) _ _ _); k_dflt (refine' one_okU ?B ?F ?X ?N ?T ?hk ?U ?hl ?hls ?h0 ?h1 ?hd ?_; (case B => k_asm); (case F => k_asm); (case X => k_asm); (case N => k_asm); (case T => k_asm); (case hk => exact rfl); (case hd => ktr_room); (case U => k_updF); (case hl => k_mem); (case hls => k_ne); (case h0 => exact Nat.le_of_ble_eq_true rfl); (case h1 => exact Nat.le_of_ble_eq_true rfl)); intro v' x' y' tx' ty' h' tk' hv' F' N'; (try dsimp only at N'); (first | (obtain ⟨f', t', e', hf'⟩ := pick_int (by l_ints) hv'; clear hv'; subst e') | skip)))
local macro_rules | `(tactic| walk_at "call ref") => `(tactic| (k_here; (with_reducible show wpAny _ _ (call (Value.ref 95) _) _ _ _); k_dflt (refine' pool_ok ?B ?F ?X ?N ?T ?hk ?hl ?hi ?hz ?hd ?_; (case B => k_asm); (case F => k_asm); (case X => k_asm); (case N => k_asm); (case T => k_asm); (case hk => exact rfl); (case hd => ktr_room); (case hl => assumption); (case hi => assumption); (case hz => omega)); intro r' x' y' tx' ty' h' tk' l1 F' N'; (try k_lt l1)))
local macro_rules | `(tactic| walk_at "eval ListComp") => `(tactic| (k_here; (with_reducible show wpAny _ _ (eval (Expr.ListComp _ [Comprehension.mk _ (Expr.Name _ _) _ _] _ _) _) _ _ _); k_dflt (refine LCg.ListComp_U (F₀ := by k_asm) (by rfl) (by decide) (by rfl) (by decide) (by rfl) ?_)))
local macro_rules | `(tactic| walk_at "eval ListComp") => `(tactic| (k_here; (with_reducible show wpAny _ _ (eval (Expr.ListComp _ [Comprehension.mk _ (Expr.Tuple _ _ _) _ _] _ _) _) _ _ _); k_dflt (refine ListComp_tup (F₀ := by k_asm) (by rfl) (by decide) (by rfl) (by decide) (by rfl) ?_)))
local macro_rules | `(tactic| walk_at "exec Assign cons ListComp") => `(tactic| (k_here; k_dflt (refine Assign_ListComp_tup (F₀ := by k_asm) (by rfl) (by with_unfolding_all rfl) (by rfl) (by decide) (by rfl) (by decide) (by rfl) (by rfl) (by rfl) ?_)))
local macro_rules | `(tactic| walk_at "pyIter ref") => `(tactic| k_extra "loop")
local macro_rules | `(tactic| walk_at "CompSrc") => `(tactic| k_extra "comp")
local macro_rules | `(tactic| walk_at "SrcT") => `(tactic| k_extra "compT")
local macro_rules | `(tactic| walk_at "execs cons") => `(tactic| (k_here; (with_reducible show wpAny _ _ (execs (_ :: Stmt.Assign [Expr.Tuple _ _ _] (Expr.Tuple [Expr.Call _ _ _ _, Expr.Call _ _ _ _] _ _) _ :: Stmt.If _ _ _ _ :: _) _) _ _ _); with_reducible refine hid_out ?_))
theorem t1 : PySem.Challenge.rw_xm0807_01.Holds := hd (by
  k_with_none
  k_with "loop" => (k_here; (rename IsRange _ _ _ _ _ _ _ _ => rgX'); (rename Bnd _ _ => bX'); (rename Pick _ _ => pkX'); k_dflt (refine' ids_loop pkX' ?hc ?hh rgX' ?hb ?F ?hm ?N ?h1 ?h2 ?h3 ?ne ?_ ?_ ?hx; (case hc => assumption); (case hh => exact rfl); (case hb => exact bnd_succ bX'); (case F => k_asm); (case hm => exact rfl); (case N => k_asm); (case h1 => k_mem); (case h2 => k_mem); (case h3 => k_mem); (case ne => exact ⟨by k_ne, by k_ne⟩); (case hx => decide +kernel)); (intro i9 t9 li9 vi9 ids9 n9 a9 b9 ta9 tb9 h9 tk9 I9 oI9 hn9 hi9 hl9 hI9 ne9 F9 N9; (obtain ⟨ne91, ne92, ne93, ne94, ne95⟩ := ne9); (have it9 := it_mark ne91); (try dsimp only); (try k_fold)); rotate_left; (intro n9 u9 li9 vi9 ids9 m9 a9 b9 ta9 tb9 h9 tk9 h19 h49 hn9 hI9 ne9 F9 N9; (have gi9 := goodIds h19 h49 pkX' hn9); (have gl9 := gi9.len); (clear hn9 h19 h49 bX'); (obtain ⟨ne91, ne92⟩ := ne9); (replace ne91 := off_of ne91); (replace ne92 := off_of ne92); (have cm9 := off_mark ne92); (repeat (rename (@LT.lt Nat _ _ _ ∧ _) => z9; clear z9)); (try dsimp only); (try k_fold)); rotate_left)
  k_with "comp" => (k_here; k_dflt (refine' comp_list (fun r => Bnd r 4) ?hc ?hh ?F ?N ?U ?hm ?hi ?hs ?_ ?_; (case hc => assumption); (case hh => exact rfl); (case F => k_asm); (case N => k_asm); (case U => k_updF); (case hm => intro o9; (try dsimp only); k_mem); (case hi => assumption); (case hs => omega)); (intro v8 I8 oI8 C8 oC8 D8 m8 ys8 a8 b8 ta8 tb8 h8 tk8 E8 hC8 hx8 F8 N8 ne8 ne7 ne6; (try dsimp only at N8); (try dsimp only); (try k_fold)); rotate_left; (intro hz8 voth roth a8 b8 ta8 tb8 hIoth hloth hGoth; (try dsimp only)); rotate_left)
  k_with "comp" => (k_here; (fail_if_success (have zz9 := none_bnd (by assumption))); k_dflt (refine' comp_list (fun r => Bnd r 4) ?hc ?hh ?F ?N ?U ?hm ?hi ?hs ?_ ?_; (case hc => assumption); (case hh => exact rfl); (case F => k_asm); (case N => k_asm); (case U => k_updF); (case hm => intro o9; (try dsimp only); k_mem); (case hi => assumption); (case hs => omega)); (intro v8 I8 oI8 C8 oC8 D8 m8 ys8 a8 b8 ta8 tb8 h8 tk8 E8 hC8 hx8 F8 N8 ne8 ne7 ne6; (try dsimp only at N8); (try dsimp only); (try k_fold)); rotate_left; (intro hz8 vone rone a8 b8 ta8 tb8 hIone hlone hGone; (try dsimp only)); rotate_left)
  k_with "compT" => (k_here; k_dflt (refine' comp_tup (fun r => Bnd r 16) ?hc ?hh ?F ?N ?U ?hm ?hi ?hs ?_ ?_; (case hc => assumption); (case hh => exact rfl); (case F => k_asm); (case N => k_asm); (case U => k_updF); (case hm => intro o9; (try dsimp only); k_mem); (case hi => exact (rfl : _ = 2)); (case hs => decide)); (intro v8 I8 oI8 C8 oC8 D8 m8 ys8 a8 b8 ta8 tb8 h8 tk8 E8 hC8 hx8 F8 N8 ne8 ne7 ne6; (try dsimp only at N8); (try dsimp only); (try k_fold)); rotate_left; (intro hz8 vnw rnw a8 b8 ta8 tb8 hInw hlnw hGnw; (try dsimp only); (obtain ⟨u9, v9, e9⟩ := two_of hlnw); subst e9; (have good9 := mkGood gi9 hlone hloth hGone hGoth hGnu hGnw)); rotate_left)
  k_with "compT" => (k_here; (fail_if_success (have zz9 := none_64 (by assumption))); k_dflt (refine' comp_tup (fun r => Bnd r 64) ?hc ?hh ?F ?N ?U ?hm ?hi ?hs ?_ ?_; (case hc => assumption); (case hh => exact rfl); (case F => k_asm); (case N => k_asm); (case U => k_updF); (case hm => intro o9; (try dsimp only); k_mem); (case hi => exact (rfl : _ = 2)); (case hs => decide)); (intro v8 I8 oI8 C8 oC8 D8 m8 ys8 a8 b8 ta8 tb8 h8 tk8 E8 hC8 hx8 F8 N8 ne8 ne7 ne6; (try dsimp only at N8); (try dsimp only); (try k_fold)); rotate_left; (intro hz8 vnu rnu a8 b8 ta8 tb8 hInu hlnu hGnu; (try dsimp only); (obtain ⟨p9, q9, e9⟩ := two_of hlnu); subst e9); rotate_left)
  k_go0
  k_steps
  all_goals try ((with_reducible refine hid_in ?_); (with_reducible refine' seg1 ?B ?F ?X ?T ?N ?hc ?hi ?h1 ?h2 ?hn ?good ?cell ?o1 ?o2 ?o3 ?o4 ?o5 ?o6 ?mi ?mt ?mn ?mm ?m1 ?m2 ?hb ?hs ?hE ?ret); (case B => assumption); (case X => assumption); (case T => assumption); (case F => k_asm); (case mi => exact rfl); (case mt => exact rfl); (case mn => exact rfl); (case m1 => exact rfl); (case m2 => exact rfl); (case hc => assumption); (case N => exact news_sub (by k_asm) (by k_subL)); (case hi => assumption); (case h1 => assumption); (case h2 => assumption); (case hn => assumption); (case good => assumption); (case cell => assumption); (case mm => exact rfl); (case hb => exact rfl); (case hs => exact rfl); (case o1 => assumption); (case o2 => assumption); (case o3 => assumption); (case o4 => assumption); (case o5 => assumption); (case o6 => assumption); (case hE => passes_own); (case ret => intro m' h' tk' F'; refine (end_true F' ?_ ?_ ?_ ?_ : GoodW _ _ _ _ _ (.ok (.ret (.bool true))) _); exact (by assumption); exact rfl; exact law_raises _ _; exact law_post _ _))
  all_goals (try k_unfold)
  all_goals (try dsimp only)
  all_goals first
    | ((with_reducible refine' DrawU.intro ?w0F ?w0N ?w0s ?w0g); (case w0F => k_asm); (case w0N => k_asm); (case w0s => lcg_sub); (case w0g => first | assumption | exact pick_bnd (by assumption) (by assumption) (by decide)))
    | (have hv := show _ ∈ [Value.ref _, Value.ref _] from by assumption
       rcases List.mem_cons.mp hv with e | e
       · subst e
         (with_reducible refine' ids_end ?w1F ?w1N ?w1a ?w1b ?w1c ?w1d ?w1n ?w1i ?w1z ?w1x)
         (case w1F => k_asm)
         (case w1N => k_asm)
         (case w1a => k_mem)
         (case w1b => k_mem)
         (case w1c => k_mem)
         (case w1d => k_mem)
         (case w1n => exact names_pre (by assumption))
         (case w1i => assumption)
         (case w1z => exact ⟨by k_ne, by k_ne, by k_ne, by k_ne⟩)
         (case w1x => decide +kernel)
         all_goals exact (show Tok from (0 : Nat))
       · have e := List.mem_singleton.mp e
         subst e
         (with_reducible refine' ids_end ?w2F ?w2N ?w2a ?w2b ?w2c ?w2d ?w2n ?w2i ?w2z ?w2x)
         (case w2F => k_asm)
         (case w2N => k_asm)
         (case w2a => k_mem)
         (case w2b => k_mem)
         (case w2c => k_mem)
         (case w2d => k_mem)
         (case w2n => exact names_post (by assumption))
         (case w2i => assumption)
         (case w2z => exact ⟨by k_ne, by k_ne, by k_ne, by k_ne⟩)
         (case w2x => decide +kernel)
         all_goals exact (show Tok from (0 : Nat)))
  skip)
end
end
end Mine
set_option maxRecDepth 100000 in
set_option maxHeartbeats 8000000 in
theorem PySem.Challenge.cw_xm0807_01_holds : PySem.Challenge.rw_xm0807_01.Holds := by
  exact Mine.t1
#print axioms PySem.Challenge.cw_xm0807_01_holds
