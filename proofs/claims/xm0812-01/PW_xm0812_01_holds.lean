import PyProof.Rows.All
import Wide.All
import OpenK.AllK
import Wide.FinOn
import PySem.Challenge.RW_xm0812_01
open PySem PySem.W PyProof.Rows
set_option Elab.async false
set_option maxRecDepth 100000
set_option maxHeartbeats 8000000
set_option linter.all false
namespace Mine
open_top hd for PySem.Challenge.rw_xm0812_01
end Mine
section
open PySem PySem.W PyProof.Rows
namespace Mine
theorem sqOk (z : Int) : IntMulOk (z.fmod 2147483647) (z.fmod 2147483647) := by
  have h1 := Int.fmod_nonneg_of_pos z (b := 2147483647) (by decide)
  have h2 := Int.fmod_lt_of_pos z (b := 2147483647) (by decide)
  exact PySem.IntMulOk.of_right (PySem.intBits_le_64 (by omega) (by omega))
theorem fmod_in (z top : Int) (h : 1 ≤ top) : 0 ≤ z.fmod top ∧ z.fmod top < top :=
  ⟨Int.fmod_nonneg_of_pos z (by omega), Int.fmod_lt_of_pos z (by omega)⟩
theorem fdiv_nn (z top : Int) (h0 : 0 ≤ z) (h : 1 ≤ top) : 0 ≤ z.fdiv top := by
  rw [Int.fdiv_eq_ediv_of_nonneg _ (by omega)]; exact Int.ediv_nonneg h0 (by omega)
local macro_rules | `(tactic| k_all) => `(tactic| assumption)
local macro_rules | `(tactic| walk_at "binaryOp Mult int int") => `(tactic| (refine mul_int ?_ (sqOk _)))
theorem take_ok (w : World) {p : Program} {loose : List PySem.Str} {mean : ExcName → Option Value} {mg mb : PySem.Str → Option Value}
    {dp un : Nat} {gd : Option (List Code)} {cn : PySem.Str} {cs : Scope} {a : Addr} {ccd : Value} {cl : List (PySem.Str × Addr)} {outer : List Env} {A₀ : Around}
    {base h₀ : Heap} {L : Addr} {m : PySem.Str → Option Value} {s : Shared} {Q E : Value → Shared → Prop}
    {l : Addr} {x y top : Int} {tx ty tt : Tok} {n : Nat} {rest : List (Addr × Obj)}
    (B : Below A₀ base outer h₀) (F : Fr h₀ L s.heap m) (X : (hd.heap_39 w.params).In h₀)
    (N : News h₀ L s.heap ((l, listOf #[.int x tx, .int y ty] n) :: rest)) (hne : ∀ p ∈ rest, p.1 ≠ l)
    (T : Top p loose mean mg mb h₀) (hk : cs.kind = .function)
    (h1 : 1 ≤ top) (h2 : top ≤ 48) (hx : 0 ≤ x) (hy0 : 0 ≤ y) (hy : y < 2147483647)
    (hdp : dp + 1 < recursionLimit) (hun : un + 8 < cLine)
    (hret : ∀ (r : Int) (t : Tok) (x' : Int) (tx' : Tok) (y' : Int) (ty' : Tok) (h' : Heap) (tk' : Nat), 0 ≤ r → r < top → 0 ≤ x' → 0 ≤ y' → y' < 2147483647 →
      Fr h₀ L h' m → News h₀ L h' ((l, listOf #[.int x' tx', .int y' ty'] n) :: rest) → Q (.int r t) { s with heap := h', toks := tk' }) :
    wpAny (model PySem.Challenge.rw_xm0812_01.row.prog w) (ktrTop dp un gd cn cs L a ccd cl outer) (call (.ref 182) [.ref l, .int top tt]) Q E s := by
  revert X; k_fill; intro X
  refine wpAny_call ?_
  k_dflt cell_enter
  k_steps
  · refine' hret _ _ _ _ _ _ _ _ ?a1 ?a2 ?a3 ?a4 ?a5 ?a6 ?a7
    case a6 => assumption
    case a7 => assumption
    case a1 => exact (fmod_in _ top h1).1
    case a2 => exact (fmod_in _ top h1).2
    case a3 => exact fdiv_nn x top hx h1
    case a4 => exact hy0
    case a5 => exact hy
  · refine' hret _ _ _ _ _ _ _ _ ?a1 ?a2 ?a3 ?a4 ?a5 ?a6 ?a7
    case a6 => assumption
    case a7 => assumption
    case a1 => exact (fmod_in _ top h1).1
    case a2 => exact (fmod_in _ top h1).2
    case a3 => exact hx
    case a4 => exact (fmod_in _ 2147483647 (by decide)).1
    case a5 => exact (fmod_in _ 2147483647 (by decide)).2
end Mine
end
section
local macro_rules | `(tactic| k_room) => `(tactic| ktr_room)
section
open PySem PySem.W PyProof.Rows
namespace Mine
section
variable {prog : Program} {w : World} {A : Around} {E : Value → Shared → Prop} {h : Heap} {g : Array GenState} {d : Drawn} {t : Nat} {os : OsState} {v : Value}
abbrev feObj : Obj := excClassObj (Str.ofString "FrameError") (Str.ofString "FrameError") 51 50 [.ref 38] [.ref 38, .type "Exception", .type "BaseException", .type "object"] true [] [] false none none (some (.ref 42)) none (some (.str (Str.ofString "FrameError") 225)) (some (.str (Str.ofString "FrameError") 233)) (some (.bool true)) "Exception.__new__"
theorem fe_at {w : World} (X : (hd.heap_39 w.params).In h) : h.get? 51 = some feObj := X 51 _ rfl
abbrev feExc (tp : Addr) : Obj := { cls := .ref 51, data := .fields #[.ref tp, .none, .none, .none, .bool false, .none] }
abbrev feTup (v : Value) : Obj := { cls := .type "tuple", data := .seq #[v] }

theorem fe_check (hC : h.get? 51 = some feObj) {M : Model} {Q : Unit → Shared → Prop} (hq : Q () ⟨h, g, d, t, os⟩) : wpAny M A (checkBuiltinCall "Exception.__new__" ⟨[.ref 51, v], []⟩) Q E ⟨h, g, d, t, os⟩ := by
  have FB := PySem.F.excBase_Exception
  have hin : (Value.ref 51 :: [Value.ref 38, .type "Exception", .type "BaseException", .type "object"]).contains (.type "Exception") = true := by decide +kernel
  have hs := FB.noStar
  simp only [checkBuiltinCall, FB.newKind, FB.newSplit, FB.newRow]
  repeat (first | refine wpAny_loadPart_at hC ?_ | (refine wpAny_isSubtype_exc hC ?_; rw [hin]) | refine wpAny_staticBase_exc hC ?_ | refine wpAny_madeBy_exc hC ?_ | simp only [bne_self_eq_false, Bool.false_eq_true, if_false] | wp_step)
  exact hq

theorem fe_new (hC : h.get? 51 = some feObj) {R : Result → Shared → Prop}
    (hq : R (.ok (.ret (.ref (h.objs.size + 1)))) ⟨(h.push (feTup v)).push (feExc h.objs.size), g, d, t, os⟩) :
    codeAny (model prog w) A (.builtin "Exception.__new__" ⟨[.ref 51, v], []⟩) R ⟨h, g, d, t, os⟩ := by
  have FB := PySem.F.excBase_Exception
  have hends := FB.ends
  have i1 : (Value.ref 51 :: [Value.ref 38, .type "Exception", .type "BaseException", .type "object"]).contains (.type "Exception") = true := by decide +kernel
  have i2 : (Value.ref 51 :: [Value.ref 38, .type "Exception", .type "BaseException", .type "object"]).contains (.type "AttributeError") = false := by decide +kernel
  have i3 : (Value.ref 51 :: [Value.ref 38, .type "Exception", .type "BaseException", .type "object"]).contains (.type "NameError") = false := by decide +kernel
  refine codeAny_builtinAt FB.entry ?_
  unfold Builtin.«BaseException.__new__»
  refine PySem.wpAt_bind ?_
  show PySem.wpAt _ _ _ (stack >>= _) _ _ _
  refine PySem.wpAt_bind (PySem.wpAt_stack fun p below => PySem.wpAt_of_wpAny ?_)
  wp_walk
  refine PySem.wpAt_of_wpAny ?_
  rw [FB.owner]
  repeat (first | with_reducible refine wpAny_madeHere_exc FB.canon hC ?_ | with_reducible refine wpAny_loadPart_at hC ?_ | (with_reducible refine wpAny_isSubtype_exc hC ?_; first | rw [i1] | rw [i2] | rw [i3]) | wp_step)
  show R _ _
  rw [Heap.size_push]
  exact hq

theorem fe_init (hC : h.get? 51 = some feObj) {M : Model} (hI : Looks M h (typeLookup (.ref 51) "__init__") (some (.ref 35))) (hB : ∀ self, Looks M h (bindSpecial (.ref 35) self) (.ref 35, [self])) (hM : M = model prog w) {Q : Fin → Shared → Prop}
    (hq : wpAny M A (call (.ref 35) [.ref (h.objs.size + 1), v]) (fun r s' => r = .none ∧ Q (.done (.ret (.ref (h.objs.size + 1)))) s') E ⟨(h.push (feTup v)).push (feExc h.objs.size), g, d, t, os⟩) :
    wpAny M A (Builtin.«type.__call__» ⟨[.ref 51, v], []⟩) Q E ⟨h, g, d, t, os⟩ := by
  subst hM
  have FB := PySem.F.excBase_Exception
  repeat (first | with_reducible refine wpAny_loadPart_at hC ?_ | with_reducible refine wpAny_madeBy_exc hC ?_ | wp_step)
  refine codeAny_call_builtin_code (Code.quiet_builtin _ FB.quiet) (fe_check hC ?_)
  refine fe_new hC ?_
  have up : ∀ b o, h.get? b = some o → ((h.push (feTup v)).push (feExc h.objs.size)).get? b = some o := fun b o e => Heap.get?_push_of_some _ (Heap.get?_push_of_some _ e)
  have hx : ((h.push (feTup v)).push (feExc h.objs.size)).get? (h.objs.size + 1) = some (feExc h.objs.size) := by heap_get
  have hC1 := up _ _ hC
  have hI1 := hI.keeps up
  have hB1 := (hB (.ref (h.objs.size + 1))).keeps up
  have i4 : (Value.ref 51 :: [Value.ref 38, .type "Exception", .type "BaseException", .type "object"]).contains (.ref 51) = true := by decide +kernel
  show wpAny _ _ _ _ _ _
  unfold isInstance
  repeat (first | with_reducible refine wpAny_loadPart_at hx ?_ | (with_reducible refine wpAny_isSubtype_exc hC1 ?_; rw [i4]) | wp_step)
  refine hI1.at ?_
  refine wpAny_holding (wpAny_bind ?_)
  refine hB1.at ?_
  dsimp only
  refine wpAny_bind (wpAny_mono hq (fun r s' hr => ?_) fun _ _ x => x)
  obtain ⟨rfl, hQ⟩ := hr
  wp_walk
  exact hQ

theorem fe_call (X : (hd.heap_39 w.params).In h) {M : Model} (hI : Looks M h (typeLookup (.ref 51) "__init__") (some (.ref 35))) (hB : ∀ self, Looks M h (bindSpecial (.ref 35) self) (.ref 35, [self])) (hM : M = model prog w) {Q : Value → Shared → Prop}
    (hq : wpAny M (A.under (.builtin "type.__call__" ⟨[.ref 51, v], []⟩)) (call (.ref 35) [.ref (h.objs.size + 1), v]) (fun r s' => r = .none ∧ Q (.ref (h.objs.size + 1)) s') E ⟨(h.push (feTup v)).push (feExc h.objs.size), g, d, t, os⟩) :
    wpAny M A (call (.ref 51) [v]) Q E ⟨h, g, d, t, os⟩ := by
  subst hM
  have hC := fe_at X
  have f1 := tc_lookup
  have f2 := tc_bind (.ref 51)
  have hT : (⟨h, g, d, t, os⟩ : Shared).TypeIs (.ref 51) "type" := ⟨_, hC, rfl⟩
  refine wpAny_call (codeAny_of_tree ?_)
  show wpAny _ _ (callAny (.ref 51) _) _ _ _
  repeat (any_goals (first | assumption | with_reducible refine wpAny_loadPart_at hC ?_ | wp_step))
  refine ⟨rfl, ?_⟩
  refine codeAny_call_builtin_at (Code.quiet_builtin _ (by decide +kernel)) entry_typeCall (wpAny_check_type_call_sub hC (fe_init hC hI hB rfl ?_))
  exact hq
end
end Mine
end
section
open PySem PySem.W PyProof.Rows
namespace Mine
theorem fe_walk {prog : Program} {w : World} {A : Around} {E : Value → Shared → Prop} {s : Shared} {h₀ : Heap} {L : Addr} {m : PySem.Str → Option Value} {news : List (Addr × Obj)} {v : Value} {Q : Value → Shared → Prop}
    (F : Fr h₀ L s.heap m) (X : (hd.heap_39 w.params).In h₀) (N : News h₀ L s.heap news)
    (hi : findIn (hd.heap_39 w.params) (.ref 51) "__init__" = some (some (.ref 35))) (hf : typeIn (hd.heap_39 w.params) (.ref 35) = some (.type "function"))
    (h : ∀ e tp h', Fr h₀ L h' m → News h₀ L h' ((e, feExc tp) :: (tp, feTup v) :: news) → (∀ p ∈ news, p.1 < tp) → tp < e →
      wpAny (model prog w) (A.under (.builtin "type.__call__" ⟨[.ref 51, v], []⟩)) (call (.ref 35) [.ref e, v]) (fun r s' => r = .none ∧ Q (.ref e) s') E { s with heap := h' }) :
    wpAny (model prog w) A (call (.ref 51) [v]) Q E s := by
  obtain ⟨hh, g, d, t, os⟩ := s
  have X' := X.keeps F.keep
  refine fe_call X' (looks_findIn X' hi) (fun self => bind_fn X' self hf) rfl (h _ hh.objs.size _ ((F.push _).push _) ?_ (fun p hp => Heap.lt_size (N p hp).1) (Nat.lt_succ_self _))
  have := (N.push F (feTup v)).push (F.push _) (feExc hh.objs.size)
  rwa [Heap.size_push] at this
section
variable {prog : Program} {w : World} {A : Around} {E : Value → Shared → Prop} {s : Shared} {h₀ : Heap} {L : Addr} {m : PySem.Str → Option Value} {rest : List (Addr × Obj)} {e tp : Addr} {v : Value}
abbrev feExcD (tp d : Addr) : Obj := { cls := .ref 51, dict := some d, data := .fields #[.ref tp, .none, .none, .none, .bool false, .none] }
abbrev feCls : ClassData := { name := Str.ofString "FrameError", bases := [.ref 38], mro := [.ref 51, .ref 38, .type "Exception", .type "BaseException", .type "object"], ns := 50, qualname := Str.ofString "FrameError" }
theorem fe_set {Q : Unit → Shared → Prop} (F : Fr h₀ L s.heap m) (X : (hd.heap_39 w.params).In h₀) (N : News h₀ L s.heap ((e, feExc tp) :: rest)) (hne : ∀ p ∈ rest, p.1 ≠ e)
    (hs : findIn (hd.heap_39 w.params) (.ref 51) "__setattr__" = some (some (.builtin "object.__setattr__"))) (ha : findIn (hd.heap_39 w.params) (.ref 51) "message" = some none)
    (hsub : mroIn (hd.heap_39 w.params) 51 (.type "object") = some true) (hc : clsIn (hd.heap_39 w.params) 51 = some feCls)
    (h : ∀ d h' tk', Fr h₀ L h' m → News h₀ L h' ((e, feExcD tp d) :: rest) → Q () { s with heap := h', toks := tk' }) :
    wpAny (model prog w) A (setAttr (.ref e) "message" v) Q E s := by
  obtain ⟨hh, g, dr, t, os⟩ := s
  dsimp only at F N
  have X' := X.keeps F.keep
  have hx := (N (e, feExc tp) (.head _)).1
  have I : InstAt hh e (feExc tp) 51 none := ⟨hx, rfl, rfl, trivial⟩
  refine set_plain (s := ⟨hh, g, dr, t, os⟩) X' I hs ?_
  have SF := PySem.F.store_object
  have sub : Looks (model prog w) hh (isInstance (.ref e) (.type "object")) true := I.type.andThen (looks_mroIn X' hsub)
  refine codeAny_call_builtin SF.slot.plain SF.entry (@check_slot (model prog w) _ _ ⟨hh, g, dr, t + 1, os⟩ "object.__setattr__" "object" "__setattr__" (.ref e) [.str "message" t, v] [] _ SF.kind SF.split sub (SF.args (.ref e) (.str "message" t) v) ?_)
  have hm : Looks (model prog w) hh (mroOf (.ref 51)) feCls.mro := (looks_clsIn X' hc).andThen .now
  rw [osa_eq, refuse_eq]
  refine wpAny_bind (wpAny_bind (I.type.here (wpAny_bind (hm.here ?_))))
  rw [refuseLoop_ref, refuseLoop_ref, PySem.F.store_Exception.passes]
  refine wpAny_pure (wpAny_bind (I.type.here (wpAny_bind ((looks_findIn X' ha).here (wpAny_bind (Looks.now.here ?_))))))
  dsimp only
  refine wpAny_bind (wpAny_pure (wpAny_bind (wpAny_bind (wpAny_loadPart hx (wpAny_bind ((looks_clsIn X' hc).here ?_))))))
  have F1 := F.push { cls := .type "dict", data := .dict #[] }
  have N1 := N.push F { cls := .type "dict", data := .dict #[] }
  have hx1 : (hh.push { cls := .type "dict", data := .dict #[] }).get? e = some (feExc tp) := Heap.get?_push_of_some _ hx
  obtain ⟨F2, N2⟩ := news_upd (pre := [(hh.objs.size, { cls := .type "dict", data := .dict #[] })]) (f := fun o : Obj => { cls := o.cls, dict := some hh.objs.size, data := o.data, slots := o.slots }) (o' := feExcD tp hh.objs.size)
    F1 N1 (fun p hp => by rw [List.mem_singleton.mp hp]; exact Ne.symm (Nat.ne_of_lt (Heap.lt_size hx))) hne rfl rfl
  show wpAny _ _ (alloc { cls := .type "dict", data := .dict #[] } >>= _) _ _ _
  refine wpAny_bind (wpAny_alloc' (wpAny_bind (wpAny_update' hx1 (wpAny_pure ?_))))
  show wpAny _ _ (Builtin.ObjectAttr.storeInDict hh.objs.size (.str _ _) _ v) _ _ _
  have hd := (N2 (hh.objs.size, { cls := .type "dict", data := .dict #[] }) (.head _))
  unfold Builtin.ObjectAttr.storeInDict Builtin.ObjectAttr.newKeyGuard
  refine wpAny_bind (wpAny_pure (wpAny_bind (wpAny_nsSet1 (m := fun _ => none) (Heap.Ns1.of_empty ⟨_, #[], _, hd.1, rfl, fun e he => absurd he (by simp), fun _ => rfl⟩) fun h' hn' hsb => ?_)))
  obtain ⟨oD, esD, epD, hoD, hdD, hcD⟩ := hn'.count (Within.cons _ v Within.nil)
  refine wpAny_bind (wpAny_lookBehind hoD (by rw [hdD]; exact pastItsLine_dict (Nat.le_trans hcD (by rw [List.length_cons, List.length_nil, sizeLine_eq]; omega))) ?_)
  wp_walk
  refine h hh.objs.size h' _ (F2.change hsb hd.2.1 hd.2.2) (fun p hp => ?_)
  have q := N2 p (.tail _ hp)
  refine ⟨(hsb.2 _ ?_).trans q.1, q.2⟩
  intro z
  have lt : p.1 < hh.objs.size := by
    rcases List.mem_cons.mp hp with rfl | hp
    · exact Heap.lt_size hx
    · exact Heap.lt_size (N p (.tail _ hp)).1
  exact absurd lt (by rw [z]; exact Nat.lt_irrefl _)
end
end Mine
end
section
open PySem PySem.W PyProof.Rows
namespace Mine
section
variable {prog : Program} {w : World} {A : Around} {E : Value → Shared → Prop} {h₀ : Heap} {L : Addr} {m : PySem.Str → Option Value} {rest : List (Addr × Obj)} {e tp : Addr} {v : Value}
theorem fe_checkI {h : Heap} {g : Array GenState} {d : Drawn} {t : Nat} {os : OsState} (hC : h.get? 51 = some feObj) (he : h.get? e = some (feExc tp)) {M : Model} {Q : Unit → Shared → Prop} (hq : Q () ⟨h, g, d, t, os⟩) :
    wpAny M A (checkBuiltinCall "Exception.__init__" ⟨[.ref e, v], []⟩) Q E ⟨h, g, d, t, os⟩ := by
  have FB := PySem.F.excBase_Exception
  have hin : (Value.ref 51 :: [Value.ref 38, .type "Exception", .type "BaseException", .type "object"]).contains (.type "Exception") = true := by decide +kernel
  have hs := FB.noStar
  simp only [checkBuiltinCall, FB.initKind, FB.initSplit, FB.initRow]
  repeat (first | with_reducible refine wpAny_loadPart_at he ?_ | with_reducible refine wpAny_loadPart_at hC ?_ | (with_reducible refine wpAny_isSubtype_exc hC ?_; rw [hin]) | wp_step)
  exact hq
theorem fe_binit {s : Shared} {Q : Value → Shared → Prop} (F : Fr h₀ L s.heap m) (X : (hd.heap_39 w.params).In h₀) (N : News h₀ L s.heap ((e, feExc tp) :: rest)) (hne : ∀ p ∈ rest, p.1 ≠ e)
    (h : ∀ tp' h', Fr h₀ L h' m → News h₀ L h' ((e, feExc tp') :: rest) → Q .none { s with heap := h' }) :
    wpAny (model prog w) A (call (.builtin "Exception.__init__") [.ref e, v]) Q E s := by
  obtain ⟨hh, g, dr, t, os⟩ := s
  dsimp only at F N
  have FB := PySem.F.excBase_Exception
  have hx := (N (e, feExc tp) (.head _)).1
  have hC := fe_at (X.keeps F.keep)
  have F1 := F.push (feTup v)
  have N1 := N.push F (feTup v)
  obtain ⟨F2, N2⟩ := news_upd (pre := [(hh.objs.size, feTup v)]) (f := Obj.mapFields fun x => x.setIfInBounds 0 (.ref hh.objs.size)) (o' := feExc hh.objs.size)
    F1 N1 (fun p hp => by rw [List.mem_singleton.mp hp]; exact Ne.symm (Nat.ne_of_lt (Heap.lt_size hx))) hne rfl rfl
  have hx1 : (hh.push (feTup v)).get? e = some (feExc tp) := Heap.get?_push_of_some _ hx
  refine wpAny_call (codeAny_call_builtin FB.init.plain FB.initEntry (fe_checkI hC hx ?_))
  wp_walk
  exact h hh.objs.size _ F2 fun p hp => N2 p (.tail _ hp)
end
theorem news_drop2 {h₀ h : Heap} {L : Addr} {p q : Addr × Obj} {news : List (Addr × Obj)} (N : News h₀ L h (p :: q :: news)) : News h₀ L h (p :: news) := fun x hx => by
  rcases List.mem_cons.mp hx with rfl | hx
  · exact N _ (.head _)
  · exact N _ (.tail _ (.tail _ hx))
theorem metaE : typeOf (.type "Exception") = pure (.type "type") := by kernel_rfl
local macro_rules | `(tactic| k_all) => `(tactic| assumption)
local macro_rules | `(tactic| walk_at "getMethod type:Exception") => `(tactic| (k_here; refine' method_type ?F ?X ?m (by decide +kernel) ?e ?h ?_; (case F => k_asm); (case X => k_asm); (case m => exact metaE); (case e => k_dflt k_is); (case h => k_handed)))
local macro_rules | `(tactic| walk_at "call builtin:Exception.__init__") => `(tactic| (k_here; k_dflt (refine' fe_binit ?F ?X ?N ?n ?_; (case F => k_asm); (case X => k_asm); (case N => k_asm); (case n => k_asm); k_whole); intro tp' h' F' N'; (try k_sweep)))
local macro_rules | `(tactic| walk_at "setAttr ref") => `(tactic| (k_here; k_dflt (refine' fe_set ?F ?X ?N ?n ?a ?b ?c ?d ?_; (case F => k_asm); (case X => k_asm); (case N => k_asm); (case n => k_asm); (case a => k_is); (case b => k_is); (case c => k_is); (case d => k_is); k_whole); intro d' h' tk' F' N'; (try k_sweep)))
theorem fe_made (w : World) {p : Program} {loose : List PySem.Str} {mean : ExcName → Option Value} {mg mb : PySem.Str → Option Value}
    {dp un : Nat} {gd : Option (List Code)} {cn : PySem.Str} {cs : Scope} {a : Addr} {ccd : Value} {cl : List (PySem.Str × Addr)} {outer : List Env} {A₀ : Around}
    {base h₀ : Heap} {L : Addr} {m : PySem.Str → Option Value} {s : Shared} {Q E : Value → Shared → Prop} {news : List (Addr × Obj)} {msg : PySem.Str} {tm : Tok}
    (B : Below A₀ base outer h₀) (F : Fr h₀ L s.heap m) (X : (hd.heap_39 w.params).In h₀)
    (N : News h₀ L s.heap news)
    (T : Top p loose mean mg mb h₀) (hk : cs.kind = .function)
    (hdp : dp + 10 < recursionLimit) (hun : un + 20 < cLine)
    (hret : ∀ (e tp d : Addr) (h' : Heap) (tk' : Nat), Fr h₀ L h' m → News h₀ L h' ((e, feExcD tp d) :: news) → (∀ p ∈ news, p.1 ≠ e) → Q (.ref e) { s with heap := h', toks := tk' }) :
    wpAny (model PySem.Challenge.rw_xm0812_01.row.prog w) (ktrTop dp un gd cn cs L a ccd cl outer) (call (.ref 51) [.str msg tm]) Q E s := by
  revert X; k_fill; intro X
  refine fe_walk F X N (by k_is) (by k_is) ?_
  intro e tp h1 F1 N1 l1 l2
  have hne : ∀ p ∈ (tp, feTup (.str msg tm)) :: news, p.1 ≠ e := fun p hp => by
    rcases List.mem_cons.mp hp with rfl | hp
    · exact Nat.ne_of_lt l2
    · exact Nat.ne_of_lt (Nat.lt_trans (l1 p hp) l2)
  refine wpAny_call ?_
  k_dflt cell_enter
  k_steps
  rename News h₀ L _ _ => N9
  refine' hret _ _ _ _ _ ?kF (news_drop2 N9) ?ko
  case kF => assumption
  case ko => exact fun p hp => hne p (.tail _ hp)
end Mine
end
section
open PySem PySem.W PyProof.Rows PySem.Calls
namespace Mine
section
variable {M : Model} {A : Around} {E : Value → Shared → Prop} {s' : Shared} {base g : Heap} {outer : List Env} {L a e tp d : Addr} {m : PySem.Str → Option Value} {name : PySem.Str} {scope : Scope} {cd : Value} {Q : Unit → Shared → Prop} {news : List (Addr × Obj)}
theorem fe_leave (K : Below A base outer g) (F : Fr g L s'.heap m) (N : News g L s'.heap ((e, feExcD tp d) :: news)) (hne : ∀ p ∈ news, p.1 ≠ e)
    (hQ : ∀ h', RaisedSN base g outer e (.ref 51) news h' → g.UpToSlots h' → Q () { s' with heap := h' }) (hk : scope.kind = .function := by rfl) :
    wpAny M (A.deeper (envOf name scope L a cd)) (leaving (envOf name scope L a cd) (.ref e)) Q E s' := by
  have K' := K.push (name := name) (a := a) (cd := cd) F hk
  have he := N _ (.head _)
  have hbe : base.get? e = none := fresh_of_stays K.stays he.2.2
  have ef : e ∉ (envOf name scope L a cd :: outer).filterMap (·.frame) := fun hm => by
    rcases kts_mem hm with z | z
    · exact he.2.1 z
    · obtain ⟨o, ho, _⟩ := (K.frames.mem z).2
      rw [he.2.2] at ho; cases ho
  generalize hl : e :: (envOf name scope L a cd :: outer).filterMap (·.frame) = l
  have mem : ∀ b, b ∈ l → b = e ∨ b ∈ (envOf name scope L a cd :: outer).filterMap (·.frame) := fun b hb => by rw [← hl] at hb; exact List.mem_cons.mp hb
  have hin : ∀ env ∈ (envOf name scope L a cd :: outer), ∀ b, env.frame = some b → b ∈ l := fun env hv b hb => by
    rw [← hl]; exact List.mem_cons_of_mem _ (List.mem_filterMap.mpr ⟨env, hv, hb⟩)
  have st : base.StaysIn (hideAll s'.heap l) := fun b o q => hideAll_get _ (K'.stays b o q) fun hm => by
    rcases mem b hm with z | z
    · rw [z, hbe] at q; cases q
    · rw [(K'.frames.mem z).1] at q; cases q
  have sg : ∀ b o, g.get? b = some o → b ∉ outer.filterMap (·.frame) → (hideAll s'.heap l).get? b = some o := fun b o q nm => hideAll_get _ (F.keep b o q) fun hm => by
    rcases mem b hm with z | z
    · rw [z, he.2.2] at q; cases q
    · rcases kts_mem z with y | y
      · rw [y, kts_self F] at q; cases q
      · exact nm y
  have hn : ∀ q ∈ news, (hideAll s'.heap l).get? q.1 = some q.2 ∧ g.get? q.1 = none ∧ base.get? q.1 = none := fun q hq => by
    have nq := N q (.tail _ hq)
    refine ⟨hideAll_get _ nq.1 fun hm => ?_, nq.2.2, fresh_of_stays K.stays nq.2.2⟩
    rcases mem _ hm with z | z
    · exact hne q hq z
    · rcases kts_mem z with y | y
      · exact nq.2.1 y
      · obtain ⟨o, ho, _⟩ := (K.frames.mem y).2
        rw [nq.2.2] at ho; cases ho
  have hen : (hideAll s'.heap l).get? e = none := hideAll_none _ (by rw [← hl]; exact .head _)
  refine wpAny_leaving_firstW (a0 := .ref tp) K'.stack (funFrames_hide K'.frames hin) rfl he.1 (fun b o hb => of_hideAll _ hb) hen rfl rfl rfl fun h' hL => ?_
  obtain ⟨k1, ⟨_, _, k2⟩, k3, k4⟩ := hL
  exact hQ h' ⟨_, .ref tp, st, sg, hn, k1, hen, k2, k3⟩ ((Heap.UpToSlots.of_keeps F.keep).trans k4)
end
section
variable {prog : Program} {w : World} {A₀ : Around} {E : Value → Shared → Prop} {s' : Shared} {base g g₀ G : Heap} {outer : List Env} {L a e : Addr} {m : PySem.Str → Option Value} {name : PySem.Str} {scope : Scope} {cd : Value}
  {b₀ : Stmt} {suite : List Stmt} {pos np : Pos} {rest : List ExceptHandler} {Q : Flow → Shared → Prop} {news : List (Addr × Obj)}
  {p : Program} {loose : List PySem.Str} {mean : ExcName → Option Value} {mg mb : PySem.Str → Option Value} {x : PySem.Str}
theorem fe_caught (R : RaisedSN base G (envOf name scope L a cd :: outer) e (.ref 51) news s'.heap) (F : Fr g L G m) (K : Below A₀ base outer g) (hsm : G.UpToSlots s'.heap) (XB : (hd.heap_39 w.params).In base) (TB : Top p loose mean mg mb base)
    (D : KtsDicts (outer.filterMap (·.frame)) g) (ex : nsIn (hd.heap_39 w.params) mainGlobals x = some (some (.ref 51)))
    (k : ∀ h' g', KtsTurn (outer.filterMap (·.frame)) g g' → Fr g' L h' m → News g' L h' news → Below A₀ base outer g' → (hd.heap_39 w.params).In g' → Top p loose mean mg mb g' → KtsDicts (outer.filterMap (·.frame)) g' →
      wpAny (model prog w) ((A₀.deeper (envOf name scope L a cd)).mark (some (.ref e))) (execs (b₀ :: suite) (envOf name scope L a cd)) Q E { s' with heap := h' })
    (hk : scope.kind = .function := by rfl) (hx : (envOf name scope L a cd).kindOf x = some .globalImplicit := by rfl) (hd' : (x == ("__debug__" : PySem.Str)) = false := by decide)
    (hE : PassesOwnAt (model prog w) ((A₀.deeper (envOf name scope L a cd)).mark (some (.ref e))) (A₀.deeper (envOf name scope L a cd)) (envOf name scope L a cd) E := by passes_own) :
    wpAny (model prog w) (A₀.deeper (envOf name scope L a cd)) (noteFrame (.ref e) (envOf name scope L a cd))
      (fun _ s₂ => wpAny (model prog w) (A₀.deeper (envOf name scope L a cd)) (setFlight (.ref e) none) (fun _ s₃ =>
        wpAny (model prog w) (A₀.deeper (envOf name scope L a cd)) (handleBy (.ref e) (envOf name scope L a cd) (.ExceptHandler (some (.Name x np)) none (b₀ :: suite) pos :: rest)) Q E s₃) E s₂) E s' := by
  obtain ⟨B, a0, hB, hBG, hl, hfl⟩ := R
  have hL : B.get? L = none := by
    obtain ⟨_, ⟨L', _, hf, hn', _⟩, _⟩ := hfl.2.2.1
    obtain rfl : L = L' := Option.some.inj hf
    exact hn'
  refine wpAny_looks_onW (Around.frames_deeper K.stack) rfl hfl fun h₄ hheld₄ hsm₄ => ?_
  refine wpAny_landsW hheld₄ fun h₅ hheld hsm₅' => ?_
  have hsm₅ := hsm.trans (hsm₄.trans hsm₅')
  obtain ⟨g₅, T₅, F₅, K₅⟩ := kts_ground K F hBG hheld.1 hsm₅
  have X₅ := XB.keeps K₅.stays
  obtain ⟨ob, hob, hobc⟩ := hheld.there
  have hC := fe_at (X₅.keeps F₅.keep)
  refine wpAny_handleBy_cons (codeAny_handlers_test (name_K F₅ X₅ (topRead_of (TB.keeps K₅.stays)) ex ?_ hk hx hd')) (by intro q; cases q)
  refine wpAny_excMatches_sub_self hC hob hobc (by decide +kernel) (codeAny_handlers_suite ?_)
  refine lands_againW hheld fun h₆ hfl₆ hsm₆ => ?_
  obtain ⟨g₆, T₆, F₆, K₆⟩ := kts_ground K F hBG hfl₆.1 (hsm₅.trans hsm₆)
  have Nl : News g₆ L h₆ news := fun q hq => ⟨hfl₆.1 _ _ (hl q hq).1, (fun z => by have := (hl q hq).1; rw [z, hL] at this; cases this), T₆.none_ _ (kts_none F.keep (hl q hq).2.1)⟩
  exact wpAny_passesOwnAt hE (k h₆ g₆ T₆ F₆ Nl K₆ (XB.keeps K₆.stays) (TB.keeps K₆.stays) (D.turn T₆))
end
end Mine
end
section
open PySem PySem.W PyProof.Rows PySem.Calls
namespace Mine
section
variable {prog : Program} {w : World} {A₀ A : Around} {s : Shared} {base h₀ : Heap} {L : Addr} {m : PySem.Str → Option Value} {env : Env} {news : List (Addr × Obj)} {K : Frag} {p : Program} {loose : List PySem.Str} {mean : ExcName → Option Value} {mg mb : PySem.Str → Option Value}
    {R : Result → Shared → Prop} {name qual : PySem.Str} {params : Arguments} {body : List Stmt} {scope : Scope} {dV kV doc pm cdv ct oc : Value} {an od : Option Addr} {osl : Array (Option Value)} {f : Addr} {args : Args} {binds : List (PySem.Str × Value)}
theorem try_enter (B : Below A₀ base [] h₀) (F : Fr h₀ L s.heap m) (X₀ : K.In h₀) {full : List (Addr × Obj)} (N : News h₀ L s.heap news) (NF : News h₀ L s.heap full) (T : Top p loose mean mg mb h₀) (hA : A.frames = some [env]) (hf : env.frame = some L) (hke : env.scope.kind = .function)
    (ho : K.lookup f = some ⟨oc, od, .func (fnOf name qual params body scope dV kV doc pm an cdv ct), osl⟩) (hcd : codeIn K cdv qual = true) (hroom : A.depth < recursionLimit)
    (hbind : BindsTo s (fnOf name qual params body scope dV kV doc pm an cdv ct) args binds) (hloc : ∀ y ∈ binds, scope.names.lookup y.1 = some .local)
    (h : ∀ g L' h₁, Fr g L' h₁ (fun y => binds.reverse.lookup y) → News g L' h₁ news → Below A base [env] g → K.In g → Top p loose mean mg mb g → KtsDicts ([env].filterMap (·.frame)) g →
      wpAny (model prog w) (A.deeper (envOf qual scope L' f cdv)) (execs body (envOf qual scope L' f cdv))
        (fun fl s' => LeaveS0 ([env].filterMap (·.frame)) h₀ L m g (fun r s' => (News h₀ L s'.heap news → News h₀ L s'.heap full) → R r s') (match fl with | .ret v => v | _ => .none) s')
        (fun e s' => wpAny (model prog w) (A.deeper (envOf qual scope L' f cdv)) (leaving (envOf qual scope L' f cdv) e) (fun _ s'' => R (.error e) s'') (fun e' s'' => R (.error e') s'') s')
        { s with heap := h₁, toks := s.toks + binds.length })
    (hco : scope.isCoroutine = false) (hgen : scope.isGenerator = false) (hk : scope.kind = .function)
    (hcell : ∀ x ∈ scope.names, x.2 ≠ .cell) : codeAny (model prog w) A (.call (.ref f) args) R s := by
  have X := X₀.keeps F.keep
  have hfs : [env].filterMap (·.frame) = [L] := by simp [hf]
  refine codeAny_call_def (fd := fnOf name qual params body scope dV kV doc pm an cdv ct) (body := body) (binds := binds) hroom (X _ _ ho) rfl (T.nolimit.keeps F.keep) (codeRec_of X hcd) rfl hbind hcell hloc (fun h₁ hns hk₁ => ?_) hco hgen hk
  obtain ⟨oL, es, ep, hL, hLd, hLk, hLf⟩ := F.ns
  have nm : ∀ b o, h₀.get? b = some o → b ∉ news.map (·.1) := fun b o e q => by
    obtain ⟨y, hy, rfl⟩ := List.mem_map.mp q
    rw [(N y hy).2.2] at e; cases e
  have nL : L ∉ news.map (·.1) := fun q => by
    obtain ⟨y, hy, e⟩ := List.mem_map.mp q
    exact (N y hy).2.1 e
  generalize hG : hideAll s.heap (news.map (·.1)) = G
  have st : h₀.StaysIn G := fun b o e => by rw [← hG]; exact hideAll_get _ (F.keep b o e) (nm b o e)
  have hLg : G.get? L = some oL := by rw [← hG]; exact hideAll_get _ hL nL
  have up : ∀ b o, G.get? b = some o → s.heap.get? b = some o := fun b o e => by rw [← hG] at e; exact of_hideAll _ e
  have hsz : G.objs.size = s.heap.objs.size := by rw [← hG]; exact hideAll_size _ _
  have none_ : ∀ y ∈ news, G.get? y.1 = none := fun y hy => by rw [← hG]; exact hideAll_none _ (List.mem_map_of_mem hy)
  have nL₀ : h₀.get? L = none := kts_self F
  have B₂ : Below A base [env] G := ⟨hA, fun b o e => st b o (B.stays b o e), ⟨by rw [hke]; decide, ⟨L, oL, hf, fresh_of_stays B.stays nL₀, hLg, fun vs q => by rw [hLd] at q; cases q⟩, trivial⟩⟩
  refine wpAny_mono (h G s.heap.objs.size h₁ ⟨hns, fun b o e => hk₁ b o (up b o e), Nat.le_of_eq hsz⟩
    (fun y hy => ⟨hk₁ _ _ (N y hy).1, Nat.ne_of_lt (Heap.lt_size (N y hy).1), none_ y hy⟩) B₂ (X₀.keeps st) (T.keeps st) (fun b hb => by
      rw [hfs] at hb
      rw [List.mem_singleton.mp hb]
      exact ⟨oL, es, ep, hLg, hLd⟩)) (fun fl s' hl => ?_) fun _ _ y => y
  obtain ⟨g', L', m', news', T', F', N', k⟩ := hl
  obtain ⟨sl, hs⟩ := T'.up hLg
  have F₃ : Fr h₀ L s'.heap m := ⟨⟨_, es, ep, F'.keep _ _ hs, hLd, hLk, hLf⟩, fun b o e => F'.keep b o (T'.other b o (st b o e) (fun q => by
    rw [hfs] at q
    rw [List.mem_singleton.mp q, nL₀] at e
    cases e)), F.above⟩
  refine k F₃ (fun y hy => ⟨(N' y hy).1, fun q => ?_, ?_⟩) fun Nn y hy => ?_
  · have := (N' y hy).2.2; rw [q, hs] at this; cases this
  · cases q : h₀.get? y.1 with
    | none => rfl
    | some o =>
      obtain ⟨sl', hs'⟩ := T'.up (st _ _ q)
      have := (N' y hy).2.2
      rw [hs'] at this
      cases this
  · by_cases hm : y.1 ∈ news.map (·.1)
    · obtain ⟨z, hz, e⟩ := List.mem_map.mp hm
      have e1 := (N z hz).1
      have e2 := (NF y hy).1
      have : z = y := by
        obtain ⟨z1, z2⟩ := z
        obtain ⟨y1, y2⟩ := y
        dsimp only at e e1 e2
        subst e
        rw [e1] at e2
        cases e2
        rfl
      rw [← this]
      exact Nn z hz
    · have hy' := NF y hy
      refine ⟨F'.keep _ _ (T'.other _ _ (by rw [← hG]; exact hideAll_get _ hy'.1 hm) fun q => ?_), hy'.2⟩
      rw [hfs] at q
      exact hy'.2.1 (List.mem_singleton.mp q)
end
end Mine
end
section
open PySem PySem.W PyProof.Rows PySem.Calls
namespace Mine
theorem fe_raise {M : Model} {A : Around} {E : Value → Shared → Prop} {s : Shared} {ex : Expr} {pos : Pos} {env : Env} {Q : Flow → Shared → Prop} (hh : A.handled = none)
    (h : wpAny M A (eval ex env) (fun v s₁ => ∃ e tp d, v = .ref e ∧ s₁.heap.get? 51 = some feObj ∧ s₁.heap.get? e = some (feExcD tp d) ∧ E (.ref e) s₁) E s) :
    wpAny M A (exec (.Raise (some ex) none pos) env) Q E s := by
  have hb : (Value.ref 51 :: [Value.ref 38, .type "Exception", .type "BaseException", .type "object"]).contains (.type "BaseException") = true := by decide +kernel
  show wpAny M A (do standAt pos; raiseStmt env (some (do let v ← eval ex env; standAt pos; pure v)) none) Q E s
  refine wpAny_bind (wpAny_standAt ?_)
  unfold raiseStmt
  dsimp only
  refine wpAny_bind (wpAny_bind (wpAny_mono h (fun v s₁ h₁ => wpAny_bind (wpAny_standAt (wpAny_pure ?_))) fun _ _ x => x))
  obtain ⟨e, tp, d, rfl, hC, he, hE⟩ := h₁
  obtain ⟨hp, g, dr, tk, os⟩ := s₁
  repeat (first | with_reducible refine wpAny_loadPart_at he ?_ | with_reducible refine wpAny_loadPart_at hC ?_ | (with_reducible refine wpAny_isSubtype_exc hC ?_; rw [hb]) | wp_step)
  exact wpAny_raiseNew_none hh hE
theorem fe_raisable {E : Value → Shared → Prop} {w : World} {s₁ : Shared} {h₀ : Heap} {L : Addr} {m : PySem.Str → Option Value} {e tp d : Addr} {news : List (Addr × Obj)}
    (F : Fr h₀ L s₁.heap m) (X : (hd.heap_39 w.params).In h₀) (N : News h₀ L s₁.heap ((e, feExcD tp d) :: news)) (hE : E (.ref e) s₁) :
    ∃ e' tp d, Value.ref e = .ref e' ∧ s₁.heap.get? 51 = some feObj ∧ s₁.heap.get? e' = some (feExcD tp d) ∧ E (.ref e') s₁ :=
  ⟨e, tp, d, rfl, fe_at (X.keeps F.keep), (N _ (.head _)).1, hE⟩
end Mine
end
section
open PySem PySem.W PyProof.Rows
namespace Mine
theorem news_cons {h₀ h : Heap} {L : Addr} {p : Addr × Obj} {news l : List (Addr × Obj)} (N : News h₀ L h news) (hp : p ∈ news) (N' : News h₀ L h l) : News h₀ L h (p :: l) := fun x hx => by
  rcases List.mem_cons.mp hx with rfl | hx
  · exact N _ hp
  · exact N' _ hx
theorem news_tl {h₀ h : Heap} {L : Addr} {p : Addr × Obj} {l : List (Addr × Obj)} (N : News h₀ L h (p :: l)) : News h₀ L h l := fun x hx => N x (.tail _ hx)
end Mine
end
section
open PySem PySem.W PyProof.Rows
namespace Mine
theorem prod_in {n M : Int} {u v : Int} (h1 : 1 ≤ n) (h2 : n ≤ u) (h3 : 1 ≤ M) (h4 : M ≤ v) : 1 ≤ n * M ∧ n * M ≤ u * v := by
  constructor
  · exact Int.le_trans (by omega) (Int.mul_le_mul h1 h3 (by omega) (by omega))
  · exact Int.mul_le_mul h2 h4 (by omega) (by omega)
theorem g4_0 {a b c d : Int} : [a, b, c, d].getD (Int.toNat 0) 0 = a := rfl
theorem g4_1 {a b c d : Int} : [a, b, c, d].getD (Int.toNat 1) 0 = b := rfl
theorem g4_2 {a b c d : Int} : [a, b, c, d].getD (Int.toNat 2) 0 = c := rfl
theorem g4_3 {a b c d : Int} : [a, b, c, d].getD (Int.toNat 3) 0 = d := rfl
structure MkA (A : Int) : Prop where
structure MkD (A : Int) : Prop where
theorem mulA {prog : Program} {w : World} {A : Around} {E : Value → Shared → Prop} {s : Shared} {a b c : Int} {t u : Tok} {Q : Value → Shared → Prop} (_k : MkA c) (e : b = c) (hm : IntMulOk a c) (h : Q (.int (a * c) s.toks) { s with toks := s.toks + 1 }) :
    wpAny (model prog w) A (binaryOp .Mult (.int a t) (.int b u)) Q E s := by subst e; exact mul_int h hm
theorem mulD {prog : Program} {w : World} {A : Around} {E : Value → Shared → Prop} {s : Shared} {a b c : Int} {t u : Tok} {Q : Value → Shared → Prop} (_k : MkD c) (e : b = c) (hm : IntMulOk a c) (h : Q (.int (a * c) s.toks) { s with toks := s.toks + 1 }) :
    wpAny (model prog w) A (binaryOp .Mult (.int a t) (.int b u)) Q E s := by subst e; exact mul_int h hm
def PartOk (W H n MA MD px py pa pd : Int) : Prop := 0 ≤ px ∧ px < (W + n * MA - 1).fdiv (n * MA) ∧ 0 ≤ py ∧ py < (H + n * MD - 1).fdiv (n * MD) ∧ 1 ≤ pa ∧ 1 ≤ pd
local macro_rules | `(tactic| k_all) => `(tactic| assumption)
theorem mk_comp (w : World) {p : Program} {loose : List PySem.Str} {mean : ExcName → Option Value} {mg mb : PySem.Str → Option Value}
    {dp un : Nat} {gd : Option (List Code)} {cn : PySem.Str} {cs : Scope} {a : Addr} {ccd : Value} {cl : List (PySem.Str × Addr)} {outer : List Env} {A₀ : Around}
    {base h₀ : Heap} {L : Addr} {m : PySem.Str → Option Value} {s : Shared} {Q E : Value → Shared → Prop}
    {news : List (Addr × Obj)} {i a1 b1 q : Int} {t1 t2 t3 t4 : Tok}
    (B : Below A₀ base outer h₀) (F : Fr h₀ L s.heap m) (X : (hd.heap_39 w.params).In h₀)
    (T : Top p loose mean mg mb h₀) (hk : cs.kind = .function) (hdp : dp + 5 < recursionLimit) (hun : un + 20 < cLine)
    (N : News h₀ L s.heap news)
    (hret : ∀ (x d : Addr) (u0 u1 u2 u3 : Tok) (h' : Heap) (tk' : Nat), Fr h₀ L h' m → News h₀ L h' ((x, instObj 77 d) :: (d, dictOf [⟨PyData.keyHash w.params (Str.ofString "ident"), .str (Str.ofString "ident") u0, .int i t1⟩, ⟨PyData.keyHash w.params (Str.ofString "across"), .str (Str.ofString "across") u1, .int a1 t2⟩, ⟨PyData.keyHash w.params (Str.ofString "down"), .str (Str.ofString "down") u2, .int b1 t3⟩, ⟨PyData.keyHash w.params (Str.ofString "quant"), .str (Str.ofString "quant") u3, .int q t4⟩] 4) :: news) → (∀ p ∈ news, p.1 < d) → d < x → Q (.ref x) { s with heap := h', toks := tk' }) :
    wpAny (model PySem.Challenge.rw_xm0812_01.row.prog w) (ktrTop dp un gd cn cs L a ccd cl outer) (call (.ref 77) [.int i t1, .int a1 t2, .int b1 t3, .int q t4]) Q E s := by
  revert X; k_fill; intro X
  k_dflt (refine' call_cls ?k1 ?k2 ?k3 ?k4 ?k5 ?k6 ?_; (case k1 => k_asm); (case k2 => k_asm); (case k3 => k_asm); (case k4 => k_is); (case k5 => k_is); (case k6 => k_is); k_whole)
  intro x d h1 F1 N1 l1 l2
  have hne : ∀ p ∈ news, p.1 ≠ d := fun p hp => Nat.ne_of_lt (l1 p hp)
  k_lt2 l2
  k_dflt cell_enter
  k_steps
  rename News h₀ L _ _ => N9
  rename Fr h₀ L _ _ => F9
  exact hret _ _ _ _ _ _ _ _ F9 N9 l1 l2
theorem mk_frame (w : World) {p : Program} {loose : List PySem.Str} {mean : ExcName → Option Value} {mg mb : PySem.Str → Option Value}
    {dp un : Nat} {gd : Option (List Code)} {cn : PySem.Str} {cs : Scope} {a : Addr} {ccd : Value} {cl : List (PySem.Str × Addr)} {outer : List Env} {A₀ : Around}
    {base h₀ : Heap} {L : Addr} {m : PySem.Str → Option Value} {s : Shared} {Q E : Value → Shared → Prop}
    {news : List (Addr × Obj)} {kd : PySem.Str} {pr H W n : Int} {lc : Addr} {t1 t2 t3 t4 t5 : Tok}
    (B : Below A₀ base outer h₀) (F : Fr h₀ L s.heap m) (X : (hd.heap_39 w.params).In h₀)
    (T : Top p loose mean mg mb h₀) (hk : cs.kind = .function) (hdp : dp + 5 < recursionLimit) (hun : un + 20 < cLine)
    (N : News h₀ L s.heap news)
    (hret : ∀ (x d : Addr) (u0 u1 u2 u3 u4 u5 : Tok) (h' : Heap) (tk' : Nat), Fr h₀ L h' m → News h₀ L h' ((x, instObj 143 d) :: (d, dictOf [⟨PyData.keyHash w.params (Str.ofString "kind"), .str (Str.ofString "kind") u0, .str kd t1⟩, ⟨PyData.keyHash w.params (Str.ofString "precision"), .str (Str.ofString "precision") u1, .int pr t2⟩, ⟨PyData.keyHash w.params (Str.ofString "height"), .str (Str.ofString "height") u2, .int H t3⟩, ⟨PyData.keyHash w.params (Str.ofString "width"), .str (Str.ofString "width") u3, .int W t4⟩, ⟨PyData.keyHash w.params (Str.ofString "components"), .str (Str.ofString "components") u4, .ref lc⟩, ⟨PyData.keyHash w.params (Str.ofString "n"), .str (Str.ofString "n") u5, .int n t5⟩] 6) :: news) → (∀ p ∈ news, p.1 < d) → d < x → Q (.ref x) { s with heap := h', toks := tk' }) :
    wpAny (model PySem.Challenge.rw_xm0812_01.row.prog w) (ktrTop dp un gd cn cs L a ccd cl outer) (call (.ref 143) [.str kd t1, .int pr t2, .int H t3, .int W t4, .ref lc, .int n t5]) Q E s := by
  revert X; k_fill; intro X
  k_dflt (refine' call_cls ?k1 ?k2 ?k3 ?k4 ?k5 ?k6 ?_; (case k1 => k_asm); (case k2 => k_asm); (case k3 => k_asm); (case k4 => k_is); (case k5 => k_is); (case k6 => k_is); k_whole)
  intro x d h1 F1 N1 l1 l2
  have hne : ∀ p ∈ news, p.1 ≠ d := fun p hp => Nat.ne_of_lt (l1 p hp)
  k_lt2 l2
  k_dflt cell_enter
  k_steps
  rename News h₀ L _ _ => N9
  rename Fr h₀ L _ _ => F9
  exact hret _ _ _ _ _ _ _ _ _ _ F9 N9 l1 l2
end Mine
end
section
open PySem PySem.W PyProof.Rows
namespace Mine
local macro_rules | `(tactic| lcg_off) => `(tactic| first | assumption | (simp only [LCg.Off3, and_true]; assumption))
theorem rangeKs_succ (n : Nat) : rangeKs 0 (n + 1) = rangeKs 0 n ++ [(n : Int)] := by
  simp [rangeKs, List.range_succ]
theorem fdiv_ge {b k u : Int} (hu : 1 ≤ u) : b ≤ k.fdiv u ↔ b * u ≤ k := by
  rw [Int.fdiv_eq_ediv_of_nonneg _ (by omega)]; exact Int.le_ediv_iff_mul_le (by omega)
theorem fdiv_lt {b k u : Int} (hu : 1 ≤ u) : k.fdiv u < b ↔ k < b * u := by
  rw [Int.fdiv_eq_ediv_of_nonneg _ (by omega)]; exact Int.ediv_lt_iff_lt_mul (by omega)
def CntSays (size begin many unit v : Int) : Prop := (begin < 0 → v = 0) ∧ (0 ≤ begin → v = max 0 (min ((begin + many) * unit) size - begin * unit))
def cntStep (b m u : Int) (l : List Int) (k : Int) : List Int :=
  if b ≤ k.fdiv u ∧ k.fdiv u < b + m then l ++ [k] else if b ≤ k.fdiv u ∧ ¬k.fdiv u < b + m then l else l
theorem cnt_eq {b m u : Int} (hu : 1 ≤ u) (hb : 0 ≤ b) (hm : 0 ≤ m) : ∀ n : Nat, ((List.foldl (cntStep b m u) [] (rangeKs 0 n)).length : Int) = max 0 (min ((b + m) * u) (n : Int) - b * u) := by
  have h0 : 0 ≤ b * u := Int.mul_nonneg hb (by omega)
  have h1 : b * u ≤ (b + m) * u := by
    rw [Int.add_mul]
    have := Int.mul_nonneg hm (show 0 ≤ u by omega)
    omega
  intro n
  induction n with
  | zero => simp [rangeKs]; omega
  | succ n ih =>
    rw [rangeKs_succ, List.foldl_append, List.foldl_cons, List.foldl_nil]
    generalize List.foldl (cntStep b m u) [] (rangeKs 0 n) = l at ih
    have e1 := fdiv_ge (b := b) (k := (n : Int)) hu
    have e2 := fdiv_lt (b := b + m) (k := (n : Int)) hu
    generalize b * u = P at *
    generalize (b + m) * u = R at *
    unfold cntStep
    by_cases c1 : b ≤ (n : Int).fdiv u <;> by_cases c2 : (n : Int).fdiv u < b + m <;> simp only [c1, c2, true_iff, false_iff] at e1 e2 <;> simp only [c1, c2, and_self, if_true, if_false, not_true, not_false_iff, and_true, and_false, false_and, true_and, List.length_append, List.length_singleton] <;> omega
theorem part_law {W px pa U v : Int} (hU : 1 ≤ U) (hW : 1 ≤ W) (hpa : 0 ≤ pa) (h : CntSays W px pa U v) :
    (v ≠ 0 ↔ 0 ≤ px ∧ px < (W + U - 1).fdiv U ∧ 1 ≤ pa) ∧ (v ≠ 0 → v = min (pa * U) (W - px * U)) := by
  obtain ⟨h1, h2⟩ := h
  by_cases hx : 0 ≤ px
  · have h2 := h2 hx
    have e := fdiv_ge (b := px + 1) (k := W + U - 1) hU
    rw [Int.add_mul, Int.one_mul] at e
    rw [Int.add_mul] at h2
    have ey : pa = 0 ∨ U ≤ pa * U := by
      by_cases hp : pa = 0
      · exact .inl hp
      · right
        have := Int.mul_le_mul_of_nonneg_right (show 1 ≤ pa by omega) (show 0 ≤ U by omega)
        rwa [Int.one_mul] at this
    have ez : pa = 0 → pa * U = 0 := fun q => by rw [q, Int.zero_mul]
    generalize (W + U - 1).fdiv U = D at *
    generalize pa * U = Y at *
    generalize px * U = Z at *
    refine ⟨⟨fun hv => ⟨hx, ?_, ?_⟩, fun ⟨_, hd, hp⟩ => ?_⟩, fun hv => ?_⟩ <;> omega
  · have h1 := h1 (by omega)
    exact ⟨⟨fun hv => absurd h1 hv, fun q => absurd q.1 hx⟩, fun hv => absurd h1 hv⟩
theorem count_c (w : World) {p : Program} {loose : List PySem.Str} {mean : ExcName → Option Value} {mg mb : PySem.Str → Option Value}
    {dp un : Nat} {gd : Option (List Code)} {cn : PySem.Str} {cs : Scope} {a : Addr} {ccd : Value} {cl : List (PySem.Str × Addr)} {outer : List Env} {A₀ : Around}
    {base h₀ : Heap} {L : Addr} {m : PySem.Str → Option Value} {s : Shared} {Q E : Value → Shared → Prop}
    {news : List (Addr × Obj)} {size begin many unit : Int} {t1 t2 t3 t4 : Tok}
    (B : Below A₀ base outer h₀) (F : Fr h₀ L s.heap m) (X : (hd.heap_39 w.params).In h₀)
    (T : Top p loose mean mg mb h₀) (hk : cs.kind = .function) (hdp : dp + 5 < recursionLimit) (hun : un + 20 < cLine)
    (N : News h₀ L s.heap news) (hu1 : 1 ≤ unit) (hu2 : unit ≤ 32) (hs1 : 1 ≤ size) (hs2 : size ≤ 48) (hb1 : -1 ≤ begin) (hb2 : begin ≤ 4) (hm1 : 0 ≤ many) (hm2 : many ≤ 9)
    (hret : ∀ (t : Tok) (v : Int) (h' : Heap) (tk' : Nat), CntSays size begin many unit v → Fr h₀ L h' m → News h₀ L h' news → Q (.int v t) { s with heap := h', toks := tk' }) :
    wpAny (model PySem.Challenge.rw_xm0812_01.row.prog w) (ktrTop dp un gd cn cs L a ccd cl outer) (call (.ref 206) [.int size t1, .int begin t2, .int many t3, .int unit t4]) Q E s := by
  revert X; k_fill; intro X
  refine wpAny_call ?_
  k_dflt (refine' code_defC ?k1 ?k2 ?k3 ?k4 ?k5 ?kA ?kF ?kK ?k6 ?k7 ?k8 ?k9 ?kB ?kD ?_ ?c2 ?c3 ?c4; (case kA => exact rfl); (case kF => exact rfl); (case kK => assumption); (case k1 => k_asm); (case k2 => k_asm); (case k3 => k_asm); (case k4 => k_asm); (case k5 => k_asm); (case k6 => k_is); (case k7 => k_is); (case k8 => ktr_room); (case k9 => exact BindsTo.of_eq rfl); (case kB => exact rfl); (case kD => decide +kernel); (case c2 => exact rfl); (case c3 => exact rfl); (case c4 => exact rfl); k_whole)
  intro g' L' h' tk' cells' FG' F' N' Y' B' X' T' l1
  k_cells Y'
  simp only [List.cons_append, List.nil_append] at N'
  try dsimp only
  try k_fold
  repeat' (first | ((with_reducible show LCg.CompEnd _ _ _ _ _ _ _ _ _ _ _ _ _ _); (with_unfolding_all (refine LCg.CompEnd.intro (by assumption) (by assumption) _ (fun _ hp => hp) (by lcg_off) (by lcg_src) ?_))) | (k_unfold; (try dsimp only)) | (k_end; wrow_close) | walk1 | (dsimp only; walk1) | (leave1; walk_say "STEP leave1"; try dsimp only))
  · rename News h₀ L _ _ => N9
    rename Fr h₀ L _ _ => F9
    exact hret _ _ _ _ ⟨fun _ => rfl, fun _ => by omega⟩ F9 (news_tl (news_tl (news_tl N9)))
  · rename News h₀ L _ _ => N9
    rename Fr h₀ L _ _ => F9
    have hv := cnt_eq (b := begin) (m := many) hu1 (by omega) hm1 (size - 0).toNat
    have hz : (((size - 0).toNat : Nat) : Int) = size := by omega
    rw [hz] at hv
    exact hret _ _ _ _ ⟨fun _ => by omega, fun _ => hv⟩ F9 (news_tl (news_tl (news_tl (news_tl N9))))
end Mine
end
section
open PySem PySem.W PyProof.Rows
namespace Mine
abbrev poolObj (x : Int) (tx : Tok) (y : Int) (ty : Tok) (n : Nat) : Obj := listOf #[.int x tx, .int y ty] n
theorem upd_mem {l : Addr} {o o' : Obj} {led led' : List (Addr × Obj)} (U : Upd l o o' led led') : (l, o) ∈ led ∧ ∀ p ∈ led', p = (l, o') ∨ (p ∈ led ∧ p.1 ≠ l) := by
  obtain ⟨pre, post, rfl, rfl, h1, h2⟩ := U.split
  refine ⟨by simp, fun p hp => ?_⟩
  rcases List.mem_append.mp hp with q | q
  · exact .inr ⟨List.mem_append_left _ q, h1 p q⟩
  · rcases List.mem_cons.mp q with q | q
    · exact .inl q
    · exact .inr ⟨List.mem_append_right _ (.tail _ q), h2 p q⟩
theorem take_u (w : World) {p : Program} {loose : List PySem.Str} {mean : ExcName → Option Value} {mg mb : PySem.Str → Option Value}
    {dp un : Nat} {gd : Option (List Code)} {cn : PySem.Str} {cs : Scope} {a : Addr} {ccd : Value} {cl : List (PySem.Str × Addr)} {outer : List Env} {A₀ : Around}
    {base h₀ : Heap} {L : Addr} {m : PySem.Str → Option Value} {s : Shared} {Q E : Value → Shared → Prop}
    {l : Addr} {x y top : Int} {tx ty tt : Tok} {n : Nat} {led : List (Addr × Obj)} {led' : Int → Tok → Int → Tok → List (Addr × Obj)}
    (B : Below A₀ base outer h₀) (F : Fr h₀ L s.heap m) (X : (hd.heap_39 w.params).In h₀)
    (T : Top p loose mean mg mb h₀) (hk : cs.kind = .function)
    (hdp : dp + 1 < recursionLimit) (hun : un + 8 < cLine)
    (N : News h₀ L s.heap led) (U : ∀ x' tx' y' ty', Upd l (poolObj x tx y ty n) (poolObj x' tx' y' ty' n) led (led' x' tx' y' ty'))
    (h1 : 1 ≤ top) (h2 : top ≤ 48) (hx : 0 ≤ x) (hy0 : 0 ≤ y) (hy : y < 2147483647)
    (hret : ∀ (r : Int) (t : Tok) (x' : Int) (tx' : Tok) (y' : Int) (ty' : Tok) (h' : Heap) (tk' : Nat), 0 ≤ r → r < top → 0 ≤ x' → 0 ≤ y' → y' < 2147483647 →
      Fr h₀ L h' m → News h₀ L h' (led' x' tx' y' ty') → Q (.int r t) { s with heap := h', toks := tk' }) :
    wpAny (model PySem.Challenge.rw_xm0812_01.row.prog w) (ktrTop dp un gd cn cs L a ccd cl outer) (call (.ref 182) [.ref l, .int top tt]) Q E s := by
  refine take_ok w (n := n) (tx := tx) (ty := ty) (rest := led.filter fun q => decide (q.1 ≠ l)) B F X (fun q hq => ?_) (fun q hq => by simpa using (List.mem_filter.mp hq).2) T hk h1 h2 hx hy0 hy hdp hun fun r t x' tx' y' ty' h' tk' a1 a2 a3 a4 a5 F' N' => hret r t x' tx' y' ty' h' tk' a1 a2 a3 a4 a5 F' fun q hq => ?_
  · rcases List.mem_cons.mp hq with rfl | hq
    · exact N _ (upd_mem (U 0 0 0 0)).1
    · exact N _ (List.mem_filter.mp hq).1
  · rcases (upd_mem (U x' tx' y' ty')).2 q hq with rfl | ⟨z, hz⟩
    · exact N' _ (.head _)
    · exact N' _ (.tail _ (List.mem_filter.mpr ⟨z, by simpa using hz⟩))

theorem news_at {h₀ h : Heap} {L a : Addr} {o : Obj} {led : List (Addr × Obj)} (N : News h₀ L h led) (hm : (a, o) ∈ led) : h.get? a = some o := (N _ hm).1
theorem item_any {prog : Program} {w : World} {A : Around} {E : Value → Shared → Prop} {s : Shared} {value slice : Expr} {th : Addr} {vs : List Value} {r : Int} {u : Tok} {Q : Value → Shared → Prop}
    (hl : s.heap.IsList th vs.toArray) (h0 : 0 ≤ r) (h1 : r < (vs.length : Int)) (hk : vs.length ≤ 48) (h : ∀ v ∈ vs, Q v s)
    (hs : subscripted slice false (.ref th) (.int r u) = operate [.ref th, .int r u] (getItem (.ref th) (.int r u)) := by with_unfolding_all rfl) :
    wpAny (model prog w) A (subscriptTail value slice (.ref th) (.int r u)) Q E s := by
  have hlt : r.toNat < vs.length := by omega
  exact tail_any hl.typeIs slot_list_getitem.lookup (wpAny_getItem_list hl h0 (by omega) (x := vs[r.toNat]) (by simp [hlt]) (h _ (List.getElem_mem hlt))) hs
theorem len_any {prog : Program} {w : World} {A : Around} {E : Value → Shared → Prop} {s : Shared} {h₀ : Heap} {L th : Addr} {vs : List Value} {nt : Nat} {led : List (Addr × Obj)} {Q : Value → Shared → Prop}
    (N : News h₀ L s.heap led) (ht : (th, listOf vs.toArray nt) ∈ led) (hk : vs.length ≤ 48) (h : ∀ tk tk', Q (.int (vs.length : Int) tk) { s with toks := tk' }) :
    wpAny (model prog w) A (call (.builtin "len") [.ref th]) Q E s := by
  refine len_list (items := vs.toArray) ⟨_, (N _ ht).1, rfl, nt, rfl⟩ (by simp only [List.size_toArray]; omega) ?_
  simp only [List.size_toArray]
  exact h _ _
theorem one_c (w : World) {p : Program} {loose : List PySem.Str} {mean : ExcName → Option Value} {mg mb : PySem.Str → Option Value}
    {dp un : Nat} {gd : Option (List Code)} {cn : PySem.Str} {cs : Scope} {a : Addr} {ccd : Value} {cl : List (PySem.Str × Addr)} {outer : List Env} {A₀ : Around}
    {base h₀ : Heap} {L : Addr} {m : PySem.Str → Option Value} {s : Shared} {Q E : Value → Shared → Prop}
    {l th : Addr} {x y : Int} {tx ty : Tok} {n nt : Nat} {vs : List Value} {led : List (Addr × Obj)} {led' : Int → Tok → Int → Tok → List (Addr × Obj)}
    (B : Below A₀ base outer h₀) (F : Fr h₀ L s.heap m) (X : (hd.heap_39 w.params).In h₀)
    (T : Top p loose mean mg mb h₀) (hk : cs.kind = .function)
    (hdp : dp + 5 < recursionLimit) (hun : un + 20 < cLine)
    (N : News h₀ L s.heap led) (U : ∀ x' tx' y' ty', Upd l (poolObj x tx y ty n) (poolObj x' tx' y' ty' n) led (led' x' tx' y' ty'))
    (hv1 : 1 ≤ vs.length) (hv2 : vs.length ≤ 48) (ht : (th, listOf vs.toArray nt) ∈ led) (ht' : ∀ x' tx' y' ty', (th, listOf vs.toArray nt) ∈ led' x' tx' y' ty')
    (hx : 0 ≤ x) (hy0 : 0 ≤ y) (hy : y < 2147483647)
    (hret : ∀ v ∈ vs, ∀ (x' : Int) (tx' : Tok) (y' : Int) (ty' : Tok) (h' : Heap) (tk' : Nat), 0 ≤ x' → 0 ≤ y' → y' < 2147483647 →
      Fr h₀ L h' m → News h₀ L h' (led' x' tx' y' ty') → Q v { s with heap := h', toks := tk' }) :
    wpAny (model PySem.Challenge.rw_xm0812_01.row.prog w) (ktrTop dp un gd cn cs L a ccd cl outer) (call (.ref 189) [.ref l, .ref th]) Q E s := by
  revert X; k_fill; intro X
  refine wpAny_call ?_
  k_dflt cell_enter
  repeat' (first | ((with_reducible show wpAny _ _ (PySem.call (Value.ref 182) _ _) _ _ _); (k_here; k_dflt (refine' take_u _ ?B ?F ?X ?T ?k ?d ?u ?N ?U ?a1 ?a2 ?a3 ?a4 ?a5 ?_; (case B => k_asm); (case F => k_asm); (case X => k_asm); (case N => k_asm); (case T => k_asm); (case k => exact rfl); (case d => ktr_room); (case u => ktr_units); (case U => assumption); (case a1 => omega); (case a2 => omega); (case a3 => omega); (case a4 => omega); (case a5 => omega); k_whole); intro r' t' x' tx' y' ty' h' tk' r1' r2' x1' y1' y2' F' N'; (try k_sweep); walk_say "TAKE")) | ((with_reducible show wpAny _ _ (PySem.call (Value.builtin "len") _ _) _ _ _); (k_here; k_dflt (refine' len_any ?N ?h ?k ?_; (case N => k_asm); (case h => assumption); (case k => assumption); k_whole); intro tk1' tk2')) | (k_here; (with_reducible show wpAny _ _ (subscriptTail _ _ (Value.ref _) (Value.int _ _)) _ _ _); k_dflt (refine' item_any ?l ?a ?b ?k ?_ ?hs; (case l => (rename ∀ _ _ _ _, _ ∈ _ => hq'; exact ⟨_, (news_at (by k_asm) (hq' _ _ _ _)), rfl, _, rfl⟩)); (case a => omega); (case b => omega); (case k => assumption); (case hs => with_unfolding_all rfl); k_whole); intro v' hv'; walk_say "ITEM") | (k_unfold; (try dsimp only)) | (k_end; wrow_close) | walk1 | (dsimp only; walk1) | (leave1; walk_say "STEP leave1"; try dsimp only))
  rename News h₀ L _ _ => N9
  rename Fr h₀ L _ _ => F9
  exact hret _ (by assumption) _ _ _ _ _ _ (by assumption) (by assumption) (by assumption) F9 N9
end Mine
end
section
open PySem PySem.W PyProof.Rows
namespace Mine
theorem pool_x (z : Int) (c : Prop) [Decidable c] : 0 ≤ (if -1 - z > z then -1 - z else z) * (if c then 1 else 0) := by
  refine Int.mul_nonneg ?_ ?_ <;> split <;> omega
theorem pool_c (w : World) {p : Program} {loose : List PySem.Str} {mean : ExcName → Option Value} {mg mb : PySem.Str → Option Value}
    {dp un : Nat} {gd : Option (List Code)} {cn : PySem.Str} {cs : Scope} {a : Addr} {ccd : Value} {cl : List (PySem.Str × Addr)} {outer : List Env} {A₀ : Around}
    {base h₀ : Heap} {L : Addr} {m : PySem.Str → Option Value} {s : Shared} {Q E : Value → Shared → Prop}
    {sc : Addr} {vs : List Value} {ns : List Int} {news : List (Addr × Obj)}
    (B : Below A₀ base outer h₀) (F : Fr h₀ L s.heap m) (X : (hd.heap_39 w.params).In h₀)
    (T : Top p loose mean mg mb h₀) (hk : cs.kind = .function)
    (hdp : dp + 5 < recursionLimit) (hun : un + 20 < cLine)
    (N : News h₀ L s.heap news) (hl : base.IsList sc vs.toArray) (hi : IntsAre vs ns) (hn : ns.length ≤ 63)
    (hret : ∀ (l : Addr) (x : Int) (tx : Tok) (y : Int) (ty : Tok) (n : Nat) (h' : Heap) (tk' : Nat), 0 ≤ x → 0 ≤ y → y < 2147483647 → (∀ p ∈ news, p.1 < l) →
      Fr h₀ L h' m → News h₀ L h' ((l, poolObj x tx y ty n) :: news) → Q (.ref l) { s with heap := h', toks := tk' }) :
    wpAny (model PySem.Challenge.rw_xm0812_01.row.prog w) (ktrTop dp un gd cn cs L a ccd cl outer) (call (.ref 175) [.ref sc]) Q E s := by
  revert X; k_fill; intro X
  refine wpAny_call ?_
  k_dflt cell_enter
  k_steps
  all_goals (
    rename News h₀ L _ _ => N9
    rename Fr h₀ L _ _ => F9
    refine hret _ _ _ _ _ _ _ _ ?ha ?hb ?hc (by assumption) F9 N9
    case ha => exact pool_x _ _
    case hb => exact (fmod_in _ 2147483647 (by decide)).1
    case hc => exact (fmod_in _ 2147483647 (by decide)).2)
end Mine
end
section
open PySem PySem.W PyProof.Rows
namespace Mine
abbrev tup2 (kd : PySem.Str) (tk : Tok) (pr : Int) (tp : Tok) : Obj := { cls := .type "tuple", data := .seq #[.str kd tk, .int pr tp] }
section
variable (w : World) {p : Program} {loose : List PySem.Str} {mean : ExcName → Option Value} {mg mb : PySem.Str → Option Value}
    {dp un : Nat} {gd : Option (List Code)} {cn : PySem.Str} {cs : Scope} {a : Addr} {ccd : Value} {cl : List (PySem.Str × Addr)} {outer : List Env} {A₀ : Around}
    {base h₀ : Heap} {L : Addr} {m : PySem.Str → Option Value} {s : Shared} {Q E : Value → Shared → Prop}
    {l th : Addr} {x y : Int} {tx ty : Tok} {n nt : Nat} {vs : List Value} {led : List (Addr × Obj)} {led' : Int → Tok → Int → Tok → List (Addr × Obj)}
theorem one_i {lo hi : Int} (hP : ∀ v ∈ vs, ∃ r t, v = Value.int r t ∧ lo ≤ r ∧ r ≤ hi)
    (B : Below A₀ base outer h₀) (F : Fr h₀ L s.heap m) (X : (hd.heap_39 w.params).In h₀)
    (T : Top p loose mean mg mb h₀) (hk : cs.kind = .function)
    (hdp : dp + 5 < recursionLimit) (hun : un + 20 < cLine)
    (N : News h₀ L s.heap led) (U : ∀ x' tx' y' ty', Upd l (poolObj x tx y ty n) (poolObj x' tx' y' ty' n) led (led' x' tx' y' ty'))
    (hv1 : 1 ≤ vs.length) (hv2 : vs.length ≤ 48) (ht : (th, listOf vs.toArray nt) ∈ led) (ht' : ∀ x' tx' y' ty', (th, listOf vs.toArray nt) ∈ led' x' tx' y' ty')
    (hx : 0 ≤ x) (hy0 : 0 ≤ y) (hy : y < 2147483647)
    (hret : ∀ (r : Int) (t : Tok) (x' : Int) (tx' : Tok) (y' : Int) (ty' : Tok) (h' : Heap) (tk' : Nat), lo ≤ r → r ≤ hi → 0 ≤ x' → 0 ≤ y' → y' < 2147483647 →
      Fr h₀ L h' m → News h₀ L h' (led' x' tx' y' ty') → Q (.int r t) { s with heap := h', toks := tk' }) :
    wpAny (model PySem.Challenge.rw_xm0812_01.row.prog w) (ktrTop dp un gd cn cs L a ccd cl outer) (call (.ref 189) [.ref l, .ref th]) Q E s := by
  refine one_c w B F X T hk hdp hun N U hv1 hv2 ht ht' hx hy0 hy fun v hv x' tx' y' ty' h' tk' a1 a2 a3 F' N' => ?_
  obtain ⟨r, t, rfl, b1, b2⟩ := hP v hv
  exact hret r t x' tx' y' ty' h' tk' b1 b2 a1 a2 a3 F' N'
theorem one_t (hP : ∀ v ∈ vs, ∃ r kd tk pr tp, v = Value.ref r ∧ (∀ x' tx' y' ty', (r, tup2 kd tk pr tp) ∈ led' x' tx' y' ty') ∧ @LT.lt Nat _ l r ∧ PyData.strOk kd = true)
    (B : Below A₀ base outer h₀) (F : Fr h₀ L s.heap m) (X : (hd.heap_39 w.params).In h₀)
    (T : Top p loose mean mg mb h₀) (hk : cs.kind = .function)
    (hdp : dp + 5 < recursionLimit) (hun : un + 20 < cLine)
    (N : News h₀ L s.heap led) (U : ∀ x' tx' y' ty', Upd l (poolObj x tx y ty n) (poolObj x' tx' y' ty' n) led (led' x' tx' y' ty'))
    (hv1 : 1 ≤ vs.length) (hv2 : vs.length ≤ 48) (ht : (th, listOf vs.toArray nt) ∈ led) (ht' : ∀ x' tx' y' ty', (th, listOf vs.toArray nt) ∈ led' x' tx' y' ty')
    (hx : 0 ≤ x) (hy0 : 0 ≤ y) (hy : y < 2147483647)
    (hret : ∀ (r : Addr) (kd : PySem.Str) (tk : Tok) (pr : Int) (tp : Tok) (x' : Int) (tx' : Tok) (y' : Int) (ty' : Tok) (h' : Heap) (tk' : Nat), 0 ≤ x' → 0 ≤ y' → y' < 2147483647 → @LT.lt Nat _ l r → PyData.strOk kd = true →
      Fr h₀ L h' m → News h₀ L h' ((r, tup2 kd tk pr tp) :: led' x' tx' y' ty') → Q (.ref r) { s with heap := h', toks := tk' }) :
    wpAny (model PySem.Challenge.rw_xm0812_01.row.prog w) (ktrTop dp un gd cn cs L a ccd cl outer) (call (.ref 189) [.ref l, .ref th]) Q E s := by
  refine one_c w B F X T hk hdp hun N U hv1 hv2 ht ht' hx hy0 hy fun v hv x' tx' y' ty' h' tk' a1 a2 a3 F' N' => ?_
  obtain ⟨r, kd, tk, pr, tp, rfl, hm, hlr, hkd⟩ := hP v hv
  exact hret r kd tk pr tp x' tx' y' ty' h' tk' a1 a2 a3 hlr hkd F' (news_cons N' (hm _ _ _ _) N')
end
end Mine
namespace Mine
def JoinIf (h₀ : Heap) (L : Addr) (m : PySem.Str → Option Value) (led : List (Addr × Obj)) (s : Shared) (f : Flow) (s' : Shared) : Prop :=
  ∃ h' tk', f = .next ∧ s' = { s with heap := h', toks := tk' } ∧ Fr h₀ L h' m ∧ News h₀ L h' led
theorem join_if {M : Model} {A : Around} {c : Sem Flow} {Q : Flow → Shared → Prop} {E : Value → Shared → Prop} {s : Shared} {h₀ : Heap} {L : Addr} {m : PySem.Str → Option Value} {led : List (Addr × Obj)}
    (_F : Fr h₀ L s.heap m) (_N : News h₀ L s.heap led) (h : wpAny M A c (fun f s' => JoinIf h₀ L m led s f s') E s)
    (k : ∀ h' tk', Fr h₀ L h' m → News h₀ L h' led → Q .next { s with heap := h', toks := tk' }) : wpAny M A c Q E s := by
  refine wpAny_mono h (fun f s' hj => ?_) fun _ _ e => e
  obtain ⟨h', tk', rfl, rfl, F, N⟩ := hj
  exact k h' tk' F N
theorem join_end {s s' : Shared} {h₀ h' : Heap} {L : Addr} {m : PySem.Str → Option Value} {led led' : List (Addr × Obj)} {tk : Nat} (hs : s' = { s with heap := h', toks := tk }) (F : Fr h₀ L h' m) (N : News h₀ L h' led') (hl : News h₀ L h' led' → News h₀ L h' led) :
    JoinIf h₀ L m led s .next s' := ⟨h', tk, rfl, hs, F, hl N⟩
end Mine
end
section
open PySem PySem.W PyProof.Rows PySem.Calls
namespace Mine
open PyProof.Rows.LCg
section
variable {prog : Program} {w : World} {A : Around} {E : Value → Shared → Prop} {s : Shared} {h₀ : Heap} {L : Addr} {m : PySem.Str → Option Value} {env : Env}
abbrev tupO (its : Array Value) (k : Nat) : Obj := { cls := .type "tuple", data := .seq its k }
def SrcT (prog : Program) (w : World) (A : Around) (h₀ : Heap) (L : Addr) (m : PySem.Str → Option Value) (env : Env) (elt : Expr) (x : PySem.Str) (scope : Scope) (cl : List (PySem.Str × Addr)) (Fin : Shared → List Value → List (Addr × Obj) → Prop) (xv : Value) (s₁ : Shared) : Prop :=
  ∃ ax its k news, xv = .ref ax ∧ A.handled = none ∧ Fr h₀ L s₁.heap m ∧ News h₀ L s₁.heap news ∧ (ax, tupO its k) ∈ news ∧ its.size ≤ sizeLine ∧
    ∀ s₂ : Shared, (∃ h, s₂ = { s₁ with heap := h }) → CompRest prog w A h₀ L m env elt x scope cl s₂ (fun nw => (ax, tupO its k) ∈ nw) (fun i v => its[i]? = some v) (Fin s₂) its.size 0 [] news
theorem srcT_intro {elt : Expr} {x : PySem.Str} {scope : Scope} {cl : List (PySem.Str × Addr)} {Fin : Shared → List Value → List (Addr × Obj) → Prop} {ax : Addr} {its : Array Value} {k : Nat} {news : List (Addr × Obj)} {s₁ : Shared}
    (hh : A.handled = none) (F : Fr h₀ L s₁.heap m) (N : News h₀ L s₁.heap news) (hm : (ax, tupO its k) ∈ news) (hsz : its.size ≤ sizeLine)
    (h : ∀ g, CompRest prog w A h₀ L m env elt x scope cl { s₁ with heap := g } (fun nw => (ax, tupO its k) ∈ nw) (fun i v => its[i]? = some v) (Fin { s₁ with heap := g }) its.size 0 [] news) :
    SrcT prog w A h₀ L m env elt x scope cl Fin (.ref ax) s₁ := ⟨ax, its, k, news, rfl, hh, F, N, hm, hsz, fun _ ⟨g, e⟩ => e ▸ h g⟩
theorem tupIs {h : Heap} {L ax : Addr} {its : Array Value} {k : Nat} {news : List (Addr × Obj)} (N : News h₀ L h news) (hm : (ax, tupO its k) ∈ news) : h.IsTuple ax its := ⟨_, (N _ hm).1, rfl, k, rfl⟩
theorem tup_st {ax I : Addr} {its : Array Value} {k : Nat} : ∀ i (h h' : Heap) (o : Obj) (nw : List (Addr × Obj)), (h.IsTupleIter I ax i ∧ h.IsTuple ax its) → h.get? I = some o → h'.get? I = some o → (∀ b o, h₀.get? b = some o → h'.get? b = some o) → News h₀ L h' nw → (ax, tupO its k) ∈ nw → (h'.IsTupleIter I ax i ∧ h'.IsTuple ax its) :=
  fun i h h' o nw st e e' _ N S => ⟨by obtain ⟨o', q, r⟩ := st.1; rw [e] at q; cases q; exact ⟨o, e', r⟩, tupIs N S⟩
theorem listComp_T {elt iter : Expr} {x : PySem.Str} {px : Pos} {scope : Scope} {cl : List (PySem.Str × Addr)} {pos : Pos} {Q : Value → Shared → Prop} (_F₀ : Fr h₀ L s.heap m)
    (hclos : closureFor scope env = pure cl) (hcell : ∀ y ∈ scope.names, y.2 ≠ .cell) (hkind : scope.kind = .function)
    (hnames : ∀ y ∈ scope.names, y.2 = .local → scope.names.lookup y.1 = some .local) (hx : scope.names.lookup x = some .local)
    (h : wpAny (model prog w) A (eval iter env) (SrcT prog w A h₀ L m env elt x scope cl (fun s₂ => FinE h₀ L m s₂ Q)) E s)
    (hs : ∀ x, foldedSetIterable iter env x = pure x := by intro _; rfl) :
    wpAny (model prog w) A (eval (.ListComp elt [⟨.Name x px, iter, [], 0⟩] scope pos) env) Q E s := by
  rw [eval_ListComp]
  refine wpAny_comprehension_free (use := none) rfl hs hclos hkind hnames (wpAny_mono h (fun xv s₁ h₁ => ?_) fun _ _ e => e)
  obtain ⟨ax, its, k, news, rfl, hh, F, N, S, hsz, R⟩ := h₁
  have hlt : ax < s₁.heap.objs.size := Heap.lt_size (N _ S).1
  have up : ∀ b o, s₁.heap.get? b = some o → (s₁.heap.push { cls := .type "tuple_iterator", data := .fields #[.ref ax, .int 0 0] }).get? b = some o := fun b o e => Heap.get?_push_of_some _ e
  refine wpAny_pyIter_tuple (tupIs N S) ?_
  refine block_U (Walks.tuple hh s₁.heap.objs.size ax (Nat.ne_of_lt hlt) its) hsz (fun i h st => by obtain ⟨o, e, _⟩ := st.1; exact ⟨o, e⟩) tup_st hcell hkind hx ⟨⟨_, Heap.get?_push_size _ rfl, rfl, rfl⟩, tupIs (N.grown up) S⟩ (fun b hb => ?_)
      (F.keeps up) (N.grown up) (Nat.ne_of_lt F.ns.lt) (next_is_new F) (fun p hp => Nat.ne_of_lt (Heap.lt_size (N p hp).1)) S (R _ ⟨_, rfl⟩) ?_
  · show b < (s₁.heap.push _).objs.size
    rw [Heap.size_push]
    rcases List.mem_cons.mp hb with rfl | hb
    · exact Nat.lt_succ_self _
    · rw [List.mem_singleton.mp hb]; exact Nat.lt_succ_of_lt hlt
  · intro D C h tk m' ys news' F' N' o1 hn hC₀ hD₀ hCL hDL hCD offC fin
    refine ⟨m', hn, fun h'' hs'' => fin D h'' tk (F'.change hs'' hCL hC₀) (fun p hp => ⟨hs''.extBut _ _ ?_ (N' p hp).1, (N' p hp).2⟩) o1⟩
    rcases List.mem_cons.mp hp with rfl | hp
    · exact Ne.symm hCD
    · exact offC p hp
theorem assignComp_T {elt iter : Expr} {x y : PySem.Str} {px py : Pos} {scope : Scope} {cl : List (PySem.Str × Addr)} {pos spos : Pos} {Q : Flow → Shared → Prop} (_F₀ : Fr h₀ L s.heap m) (hLe : env.locals = L)
    (hsw : swapsWith (.ListComp elt [⟨.Name x px, iter, [], 0⟩] scope pos) (some (.Name y py)) spos.line env = pure true)
    (hclos : closureFor scope env = pure cl) (hcell : ∀ z ∈ scope.names, z.2 ≠ .cell) (hkind : scope.kind = .function)
    (hnames : ∀ z ∈ scope.names, z.2 = .local → scope.names.lookup z.1 = some .local) (hx : scope.names.lookup x = some .local)
    (hy : env.kindOf y = some .local) (hp : (env.scope.kind == .class || (env.scope.kind == .module && env.locals != env.globals)) = false)
    (h : wpAny (model prog w) A (eval iter env) (SrcT prog w A h₀ L m env elt x scope cl (fun s₂ => FinA h₀ L m s₂ y Q)) E s)
    (hs : ∀ x, foldedSetIterable iter env x = pure x := by intro _; rfl) :
    wpAny (model prog w) A (exec (.Assign [.Name y py] (.ListComp elt [⟨.Name x px, iter, [], 0⟩] scope pos) spos) env) Q E s := by
  subst hLe
  rw [exec_Assign_Name_used _ _ _ _ hsw]
  refine wpAny_bind (wpAny_standAt (wpAny_bind ?_))
  show wpAny _ A (do let _ ← comprehension (.ListComp elt [⟨.Name x px, iter, [], 0⟩] scope pos) scope env _ (newList []) false (eval iter env) (some (assign (.Name y py) env))) _ _ s
  refine wpAny_bind (wpAny_mono (wpAny_comprehension_free (use := some (assign (.Name y py) env)) (Q := fun _ s' => Q .next s') rfl hs hclos hkind hnames
    (wpAny_mono h (fun xv s₁ h₁ => ?_) fun _ _ e => e)) (fun _ s' hq => wpAny_pure (wpAny_pure hq)) fun _ _ e => e)
  obtain ⟨ax, its, k, news, rfl, hh, F, N, S, hsz, R⟩ := h₁
  have hlt : ax < s₁.heap.objs.size := Heap.lt_size (N _ S).1
  have up : ∀ b o, s₁.heap.get? b = some o → (s₁.heap.push { cls := .type "tuple_iterator", data := .fields #[.ref ax, .int 0 0] }).get? b = some o := fun b o e => Heap.get?_push_of_some _ e
  refine wpAny_pyIter_tuple (tupIs N S) ?_
  refine block_U (Walks.tuple hh s₁.heap.objs.size ax (Nat.ne_of_lt hlt) its) hsz (fun i h st => by obtain ⟨o, e, _⟩ := st.1; exact ⟨o, e⟩) tup_st hcell hkind hx ⟨⟨_, Heap.get?_push_size _ rfl, rfl, rfl⟩, tupIs (N.grown up) S⟩ (fun b hb => ?_)
      (F.keeps up) (N.grown up) (Nat.ne_of_lt F.ns.lt) (next_is_new F) (fun p hp => Nat.ne_of_lt (Heap.lt_size (N p hp).1)) S (R _ ⟨_, rfl⟩) ?_
  · show b < (s₁.heap.push _).objs.size
    rw [Heap.size_push]
    rcases List.mem_cons.mp hb with rfl | hb
    · exact Nat.lt_succ_self _
    · rw [List.mem_singleton.mp hb]; exact Nat.lt_succ_of_lt hlt
  · intro D C h' tk m' ys news' F' N' o1 hn hC₀ hD₀ hCL hDL hCD offC fin
    show wpAny _ A (assign (.Name y py) env (.ref D)) _ _ _
    refine wpAny_assign_Name (wpAny_storeName_local hy F'.ns (fun h₂ hn₂ hs₂ => ?_) hp)
    have hL₀ : h₀.get? env.locals = none := Heap.get?_none_of_le F'.above
    have F₂ : Fr h₀ env.locals h₂ (fun z => if z = y then some (.ref D) else m z) := ⟨hn₂, fun b o e => hs₂.extBut b o (fun q => by rw [q, hL₀] at e; cases e) (F'.keep b o e), F'.above⟩
    refine ⟨m', hn.sameBut hs₂ hCL, fun h'' hs'' => fin D h'' _ (F₂.change hs'' hCL hC₀) (fun p hp => ⟨hs''.extBut _ _ ?_ (hs₂.extBut _ _ (N' p hp).2.1 (N' p hp).1), (N' p hp).2⟩) o1⟩
    rcases List.mem_cons.mp hp with rfl | hp
    · exact Ne.symm hCD
    · exact offC p hp
end
end Mine
namespace Mine
theorem off_I {I C D l : Addr} {o : Obj} {led : List (Addr × Obj)} (q : PyProof.Rows.LCg.Off3 I C D led) (hm : (l, o) ∈ led) : @Ne Nat I l := Ne.symm (q.mem _ hm).1
theorem off_C {I C D l : Addr} {o : Obj} {led : List (Addr × Obj)} (q : PyProof.Rows.LCg.Off3 I C D led) (hm : (l, o) ∈ led) : @Ne Nat C l := Ne.symm (q.mem _ hm).2.1
theorem off_D {I C D l : Addr} {o : Obj} {led : List (Addr × Obj)} (q : PyProof.Rows.LCg.Off3 I C D led) (hm : (l, o) ∈ led) : @Ne Nat D l := Ne.symm (q.mem _ hm).2.2
theorem off1_mem {D : Addr} : ∀ {led : List (Addr × Obj)}, PyProof.Rows.LCg.Off1 D led → ∀ p ∈ led, p.1 ≠ D
  | [], _, _, h => nomatch h
  | _ :: _, x, p, h => by
    rcases List.mem_cons.mp h with rfl | h
    · exact x.1
    · exact off1_mem x.2 p h
theorem off1_D {D l : Addr} {o : Obj} {led : List (Addr × Obj)} (q : PyProof.Rows.LCg.Off1 D led) (hm : (l, o) ∈ led) : @Ne Nat D l := Ne.symm (off1_mem q _ hm)
end Mine
end
section
open PySem PySem.W PyProof.Rows
namespace Mine
abbrev Row := Int × Int × Int × Int
def rowD (r : Row) : PyData := .tuple [.int r.1, .int r.2.1, .int r.2.2.1, .int r.2.2.2]
def rowsD (rows : List Row) : PyData := .list (rows.map rowD)
theorem rowD_eqv (r : Row) : PyData.eqv (rowD r) (rowD r) = true := by simp [rowD, PyData.eqv, PyData.eqvAll]
theorem rowsD_eqvAll : ∀ rows : List Row, PyData.eqvAll (rows.map rowD) (rows.map rowD) = true
  | [] => by simp [PyData.eqvAll]
  | r :: rs => by simp only [List.map_cons, PyData.eqvAll, rowD_eqv, rowsD_eqvAll rs, Bool.and_self]
theorem rowsD_eqv (rows : List Row) : PyData.eqv (rowsD rows) (rowsD rows) = true := by
  unfold rowsD; simp only [PyData.eqv]; exact rowsD_eqvAll rows
def IsMax (l : List Int) (M : Int) : Prop := M ∈ l ∧ ∀ a ∈ l, a ≤ M
theorem IsMax.eq {l : List Int} {M M' : Int} (h : IsMax l M) (h' : IsMax l M') : M = M' := Int.le_antisymm (h'.2 _ h.1) (h.2 _ h'.1)
theorem isMax_ex : ∀ (a : Int) (l : List Int), ∃ M, IsMax (a :: l) M
  | a, [] => ⟨a, .head _, fun b hb => by rw [List.mem_singleton.mp hb]; exact Int.le_refl _⟩
  | a, b :: l => by
    obtain ⟨M, h1, h2⟩ := isMax_ex b l
    by_cases h : a ≤ M
    · exact ⟨M, .tail _ h1, fun c hc => by
        rcases List.mem_cons.mp hc with rfl | hc
        · exact h
        · exact h2 c hc⟩
    · exact ⟨a, .head _, fun c hc => by
        rcases List.mem_cons.mp hc with rfl | hc
        · exact Int.le_refl _
        · have := h2 c hc; omega⟩
def rA (r : Row) : Int := r.2.1
def rB (r : Row) : Int := r.2.2.1
inductive CompsL (w : World) (led : List (Addr × Obj)) : List Value → List Row → Prop
  | nil : CompsL w led [] []
  | cons {c d : Addr} {i a b q : Int} {t1 t2 t3 t4 t5 t6 t7 t8 : Tok} {vs : List Value} {rows : List Row} (k1 : (c, instObj 77 d) ∈ led) (k2 : (d, (dictOf [⟨PyData.keyHash w.params (Str.ofString "ident"), .str (Str.ofString "ident") t1, .int i t2⟩, ⟨PyData.keyHash w.params (Str.ofString "across"), .str (Str.ofString "across") t3, .int a t4⟩, ⟨PyData.keyHash w.params (Str.ofString "down"), .str (Str.ofString "down") t5, .int b t6⟩, ⟨PyData.keyHash w.params (Str.ofString "quant"), .str (Str.ofString "quant") t7, .int q t8⟩] 4)) ∈ led) (h1 : 1 ≤ a) (h2 : a ≤ 4) (h3 : 1 ≤ b) (h4 : b ≤ 4) (t : CompsL w led vs rows) : CompsL w led (.ref c :: vs) ((i, a, b, q) :: rows)
theorem CompsL.mono {w : World} {led led' : List (Addr × Obj)} (s : ∀ p ∈ led, p ∈ led') : ∀ {vs : List Value} {rows : List Row}, CompsL w led vs rows → CompsL w led' vs rows
  | _, _, .nil => .nil
  | _, _, .cons k1 k2 h1 h2 h3 h4 t => .cons (s _ k1) (s _ k2) h1 h2 h3 h4 (t.mono s)
theorem CompsL.len {w : World} {led : List (Addr × Obj)} : ∀ {vs : List Value} {rows : List Row}, CompsL w led vs rows → vs.length = rows.length
  | _, _, .nil => rfl
  | _, _, .cons _ _ _ _ _ _ t => congrArg (· + 1) t.len
theorem CompsL.snoc {w : World} {led : List (Addr × Obj)} {c d : Addr} {i a b q : Int} {t1 t2 t3 t4 t5 t6 t7 t8 : Tok} (k1 : (c, instObj 77 d) ∈ led) (k2 : (d, (dictOf [⟨PyData.keyHash w.params (Str.ofString "ident"), .str (Str.ofString "ident") t1, .int i t2⟩, ⟨PyData.keyHash w.params (Str.ofString "across"), .str (Str.ofString "across") t3, .int a t4⟩, ⟨PyData.keyHash w.params (Str.ofString "down"), .str (Str.ofString "down") t5, .int b t6⟩, ⟨PyData.keyHash w.params (Str.ofString "quant"), .str (Str.ofString "quant") t7, .int q t8⟩] 4)) ∈ led) (h1 : 1 ≤ a) (h2 : a ≤ 4) (h3 : 1 ≤ b) (h4 : b ≤ 4) : ∀ {vs : List Value} {rows : List Row}, CompsL w led vs rows → CompsL w led (vs ++ [.ref c]) (rows ++ [(i, a, b, q)])
  | _, _, .nil => .cons k1 k2 h1 h2 h3 h4 .nil
  | _, _, .cons l1 l2 g1 g2 g3 g4 t => .cons l1 l2 g1 g2 g3 g4 (t.snoc k1 k2 h1 h2 h3 h4)
theorem CompsL.get {w : World} {led : List (Addr × Obj)} : ∀ {vs : List Value} {rows : List Row}, CompsL w led vs rows → ∀ {n : Nat} {v : Value}, vs[n]? = some v → ∃ (c d : Addr) (i a b q : Int) (t1 t2 t3 t4 t5 t6 t7 t8 : Tok), v = .ref c ∧ rows[n]? = some (i, a, b, q) ∧ (c, instObj 77 d) ∈ led ∧ (d, (dictOf [⟨PyData.keyHash w.params (Str.ofString "ident"), .str (Str.ofString "ident") t1, .int i t2⟩, ⟨PyData.keyHash w.params (Str.ofString "across"), .str (Str.ofString "across") t3, .int a t4⟩, ⟨PyData.keyHash w.params (Str.ofString "down"), .str (Str.ofString "down") t5, .int b t6⟩, ⟨PyData.keyHash w.params (Str.ofString "quant"), .str (Str.ofString "quant") t7, .int q t8⟩] 4)) ∈ led ∧ 1 ≤ a ∧ a ≤ 4 ∧ 1 ≤ b ∧ b ≤ 4
  | _, _, .nil, _, _, e => by simp at e
  | _, _, .cons k1 k2 h1 h2 h3 h4 t, 0, _, e => ⟨_, _, _, _, _, _, _, _, _, _, _, _, _, _, (Option.some.inj e).symm, rfl, k1, k2, h1, h2, h3, h4⟩
  | _, _, .cons k1 k2 h1 h2 h3 h4 t, n + 1, _, e => t.get (n := n) e
theorem CompsL.bnd {w : World} {led : List (Addr × Obj)} : ∀ {vs : List Value} {rows : List Row}, CompsL w led vs rows → ∀ r ∈ rows, (1 ≤ rA r ∧ rA r ≤ 4) ∧ 1 ≤ rB r ∧ rB r ≤ 4
  | _, _, .nil, _, h => nomatch h
  | _, _, .cons k1 k2 h1 h2 h3 h4 t, r, h => by
    rcases List.mem_cons.mp h with rfl | h
    · exact ⟨⟨h1, h2⟩, h3, h4⟩
    · exact t.bnd r h
def CompsIn (w : World) (lc : Addr) (led : List (Addr × Obj)) (rows : List Row) : Prop := ∃ vs nc, (lc, listOf vs.toArray nc) ∈ led ∧ CompsL w led vs rows ∧ 1 ≤ rows.length ∧ rows.length ≤ 3
theorem CompsIn.mono {w : World} {lc : Addr} {led led' : List (Addr × Obj)} {rows : List Row} (s : ∀ p ∈ led, p ∈ led') (h : CompsIn w lc led rows) : CompsIn w lc led' rows :=
  let ⟨vs, nc, k, c, l1, l2⟩ := h; ⟨vs, nc, s _ k, c.mono s, l1, l2⟩
theorem maxA_in {w : World} {lc : Addr} {led : List (Addr × Obj)} {rows : List Row} {M : Int} (h : CompsIn w lc led rows) (hM : IsMax (rows.map rA) M) : 1 ≤ M ∧ M ≤ 4 := by
  obtain ⟨vs, nc, k, c, l1, l2⟩ := h
  obtain ⟨r, hr, rfl⟩ := List.mem_map.mp hM.1
  exact (c.bnd r hr).1
theorem maxB_in {w : World} {lc : Addr} {led : List (Addr × Obj)} {rows : List Row} {M : Int} (h : CompsIn w lc led rows) (hM : IsMax (rows.map rB) M) : 1 ≤ M ∧ M ≤ 4 := by
  obtain ⟨vs, nc, k, c, l1, l2⟩ := h
  obtain ⟨r, hr, rfl⟩ := List.mem_map.mp hM.1
  exact (c.bnd r hr).2
theorem max_ex {w : World} {lc : Addr} {led : List (Addr × Obj)} {rows : List Row} (h : CompsIn w lc led rows) (f : Row → Int) : ∃ M, IsMax (rows.map f) M := by
  obtain ⟨vs, nc, k, c, l1, l2⟩ := h
  cases rows with
  | nil => simp at l1
  | cons r rs => exact isMax_ex (f r) (rs.map f)
inductive RowsL (R : List (Addr × Obj)) : List Value → List Row → Prop
  | nil : RowsL R [] []
  | cons {r : Addr} {i a b q : Int} {y1 y2 y3 y4 : Tok} {vs : List Value} {rows : List Row} (k : (r, ({ cls := .type "tuple", data := .seq #[.int i y1, .int a y2, .int b y3, .int q y4] } : Obj)) ∈ R) (t : RowsL R vs rows) : RowsL R (.ref r :: vs) ((i, a, b, q) :: rows)
theorem RowsL.mono {R R' : List (Addr × Obj)} (s : ∀ p ∈ R, p ∈ R') : ∀ {vs : List Value} {rows : List Row}, RowsL R vs rows → RowsL R' vs rows
  | _, _, .nil => .nil
  | _, _, .cons k t => .cons (s _ k) (t.mono s)
theorem RowsL.len {R : List (Addr × Obj)} : ∀ {vs : List Value} {rows : List Row}, RowsL R vs rows → vs.length = rows.length
  | _, _, .nil => rfl
  | _, _, .cons _ t => congrArg (· + 1) t.len
theorem RowsL.snoc {R : List (Addr × Obj)} {r : Addr} {i a b q : Int} {y1 y2 y3 y4 : Tok} (k : (r, ({ cls := .type "tuple", data := .seq #[.int i y1, .int a y2, .int b y3, .int q y4] } : Obj)) ∈ R) : ∀ {vs : List Value} {rows : List Row}, RowsL R vs rows → RowsL R (vs ++ [.ref r]) (rows ++ [(i, a, b, q)])
  | _, _, .nil => .cons k .nil
  | _, _, .cons l t => .cons l (t.snoc k)
theorem RowsL.get {R : List (Addr × Obj)} : ∀ {vs : List Value} {rows : List Row}, RowsL R vs rows → ∀ {n : Nat} {v : Value}, vs[n]? = some v → ∃ (r : Addr) (i a b q : Int) (y1 y2 y3 y4 : Tok), v = .ref r ∧ rows[n]? = some (i, a, b, q) ∧ (r, ({ cls := .type "tuple", data := .seq #[.int i y1, .int a y2, .int b y3, .int q y4] } : Obj)) ∈ R
  | _, _, .nil, _, _, e => by simp at e
  | _, _, .cons k t, 0, _, e => ⟨_, _, _, _, _, _, _, _, _, (Option.some.inj e).symm, rfl, k⟩
  | _, _, .cons k t, n + 1, _, e => t.get (n := n) e
theorem RowsL.reads {R : List (Addr × Obj)} {h : Heap} (H : ∀ p ∈ R, h.get? p.1 = some p.2) : ∀ {vs : List Value} {rows : List Row}, RowsL R vs rows → ∃ as, ReadsAll h vs (rows.map rowD) as
  | _, _, .nil => ⟨_, .nil⟩
  | _, _, .cons k t => by
    obtain ⟨as, q⟩ := t.reads H
    exact ⟨_, .cons (reads_tuple_at (H _ k) rfl rfl (.cons (.int _ _) (.cons (.int _ _) (.cons (.int _ _) (.cons (.int _ _) .nil))))) q⟩
def RowsIn (rl : Addr) (R : List (Addr × Obj)) (rows : List Row) : Prop := ∃ vs, (rl, LCg.lst vs) ∈ R ∧ RowsL R vs rows
theorem RowsIn.mono {rl : Addr} {R R' : List (Addr × Obj)} {rows : List Row} (s : ∀ p ∈ R, p ∈ R') (r : RowsIn rl R rows) : RowsIn rl R' rows := let ⟨vs, k, l⟩ := r; ⟨vs, s _ k, l.mono s⟩
theorem RowsIn.reads {rl : Addr} {R : List (Addr × Obj)} {rows : List Row} (r : RowsIn rl R rows) {h : Heap} (H : ∀ p ∈ R, h.get? p.1 = some p.2) : ∃ as, Reads h (.ref rl) (rowsD rows) as := by
  obtain ⟨vs, k, l⟩ := r
  obtain ⟨as, q⟩ := l.reads H
  exact ⟨_, reads_list_at (H _ k) rfl rfl q⟩
def Inert (o : Obj) : Prop := o.cls ≠ .type "range_iterator" ∧ ∀ x tx y ty n, o ≠ poolObj x tx y ty n
theorem inert_cls {o : Obj} (h1 : o.cls ≠ .type "range_iterator") (h2 : o.cls ≠ .type "list") : Inert o := ⟨h1, fun _ _ _ _ _ e => h2 (by rw [e])⟩
theorem inert_list {l : List Value} {n : Nat} {c : Addr} : Inert (listOf (Value.ref c :: l).toArray n) := by
  refine ⟨?_, fun x tx y ty k e => ?_⟩
  · intro e; exact absurd (Value.type.inj e) (by decide)
  · have := congrArg Obj.data e
    injection this with h1 h2
    have h3 := congrArg Array.toList h1
    simp at h3
theorem inert_lst {l : List Value} {c : Addr} : Inert (LCg.lst (Value.ref c :: l)) := by
  refine ⟨?_, fun x tx y ty k e => ?_⟩
  · intro e; exact absurd (Value.type.inj e) (by decide)
  · have := congrArg Obj.data e
    injection this with h1 h2
    have h3 := congrArg Array.toList h1
    simp at h3
theorem news_app {h₀ h : Heap} {L : Addr} {l r : List (Addr × Obj)} (N : News h₀ L h l) (N' : News h₀ L h r) : News h₀ L h (l ++ r) := fun p hp => by
  rcases List.mem_append.mp hp with hp | hp
  · exact N p hp
  · exact N' p hp
theorem off_pool {h₀ h : Heap} {L l : Addr} {all rest : List (Addr × Obj)} {x y : Int} {tx ty : Tok} {n : Nat} (N : News h₀ L h all) (hl : (l, poolObj x tx y ty n) ∈ all) (sub : ∀ p ∈ rest, p ∈ all) (hi : ∀ p ∈ rest, Inert p.2) : ∀ p ∈ rest, p.1 ≠ l := fun p hp e => by
  have h1 := (N p (sub p hp)).1
  have h2 := (N _ hl).1
  rw [e] at h1
  exact (hi p hp).2 _ _ _ _ _ (Option.some.inj (h1.symm.trans h2))
theorem off_iter {h₀ h : Heap} {L I : Addr} {it : Obj} {all news : List (Addr × Obj)} (N : News h₀ L h all) (hl : (I, it) ∈ all) (hc : it.cls = .type "range_iterator") (sub : ∀ p ∈ news, p ∈ all) (hi : ∀ p ∈ news, p.2.cls ≠ .type "range_iterator") : ∀ p ∈ news, p.1 ≠ I := fun p hp e => by
  have h1 := (N p (sub p hp)).1
  have h2 := (N _ hl).1
  rw [e] at h1
  exact hi p hp (by rw [Option.some.inj (h1.symm.trans h2)]; exact hc)
theorem map3 {a b c : PySem.Str} {m₀ mm : PySem.Str → Option Value} (ho : ∀ z, z ≠ a → z ≠ b → z ≠ c → mm z = m₀ z) : ∃ u1 u2 u3 : Option Value, mm = fun z => if z = a then u1 else if z = b then u2 else if z = c then u3 else m₀ z := by
  refine ⟨mm a, mm b, mm c, ?_⟩
  funext z
  by_cases h1 : z = a
  · rw [if_pos h1, h1]
  · rw [if_neg h1]
    by_cases h2 : z = b
    · rw [if_pos h2, h2]
    · rw [if_neg h2]
      by_cases h3 : z = c
      · rw [if_pos h3, h3]
      · rw [if_neg h3]; exact ho z h1 h2 h3
section
variable {prog : Program} {w : World} {A : Around} {E : Value → Shared → Prop} {s : Shared} {env : Env} {h₀ : Heap} {x : PySem.Str} {body : List Stmt} {Q : Flow → Shared → Prop}
theorem unr_mono {L I : Addr} {it : Obj} {s₁ : Shared} {r r' : (PySem.Str → Option Value) → List (Addr × Obj) → Prop} (hr : ∀ m n, r m n → r' m n) : ∀ (f : Flow) (s₂ : Shared), UnrPost h₀ L s₁ I it r Q f s₂ → UnrPost h₀ L s₁ I it r' Q f s₂ := by
  intro f s₂ h
  have e : UnrEnd h₀ L s₁ I it r s₂ → UnrEnd h₀ L s₁ I it r' s₂ := fun ⟨h', tk, m', n', e, F, N, o, q⟩ => ⟨h', tk, m', n', e, F, N, o, hr _ _ q⟩
  cases f with
  | ret v => exact h
  | brk => exact h
  | next => exact e h
  | cont => exact e h
theorem range_inv {J : (PySem.Str → Option Value) → List (Addr × Obj) → Prop} {I : Addr} {a : Int} {n : Nat}
    (turn : ∀ (i : Int) (it : Obj) t h tk m news, (∃ a b, it = itR a b) → J m news → Fr h₀ env.locals h (fun y => if y = x then some (.int i t) else m y) → News h₀ env.locals h ((I, it) :: news) →
      wpAny (model prog w) A (execs body env) (UnrPost h₀ env.locals { s with heap := h, toks := tk } I it J Q) E { s with heap := h, toks := tk })
    (done : ∀ h tk m news, J m news → Fr h₀ env.locals h m → News h₀ env.locals h news → Q .next { s with heap := h, toks := tk }) :
    ∀ (k i : Nat) (m : PySem.Str → Option Value) (news : List (Addr × Obj)), J m news → RangeRest prog w A E h₀ env x body Q s I a n k i m news
  | 0, _, _, _, hJ => fun h tk F N => done h tk _ _ hJ F N
  | k + 1, i, _, _, hJ => fun t h tk F N => wpAny_mono (turn _ _ t h tk _ _ ⟨_, _, rfl⟩ hJ F N) (fun f s₂ p => unr_mono (fun m' n' hj => range_inv turn done k (i + 1) m' n' hj) f s₂ p) fun _ _ e => e
end

theorem inert_any {R : List (Addr × Obj)} {rows : List Row} : ∀ (ys : List Value), RowsL R ys rows → Inert (LCg.lst ys)
  | [], _ => by
    refine ⟨?_, fun x tx y ty k e => ?_⟩
    · intro e; exact absurd (Value.type.inj e) (by decide)
    · have := congrArg Obj.data e
      injection this with h1 h2
      have h3 := congrArg Array.toList h1
      simp at h3
  | _ :: _, .cons _ _ => inert_lst
theorem allLt_mem {d : Addr} : ∀ {l : List (Addr × Obj)}, AllLt d l → ∀ p ∈ l, @LT.lt Nat _ p.1 d
  | [], _, _, h => nomatch h
  | _ :: _, x, p, h => by
    rcases List.mem_cons.mp h with rfl | h
    · exact x.1
    · exact allLt_mem x.2 p h
theorem drop_cons {α : Type} {v : α} {r vs : List α} {i : Nat} (h : v :: r = vs.drop i) : vs[i]? = some v ∧ r = vs.drop (i + 1) := by
  have h1 : (vs.drop i)[0]? = some v := by rw [← h]; rfl
  have h2 : (vs.drop i).tail = r := by rw [← h]; rfl
  refine ⟨by simpa using h1, ?_⟩
  rw [← h2, List.tail_drop]
theorem drop_nil {α : Type} {vs : List α} {i : Nat} (h : [] = vs.drop i) : vs.length ≤ i := List.drop_eq_nil_iff.mp h.symm
theorem take_snoc {α : Type} {l : List α} {n : Nat} {x : α} (h : l[n]? = some x) : l.take (n + 1) = l.take n ++ [x] := by
  rw [List.take_add_one, h]; rfl
theorem ints_snoc {n : Int} {t : Tok} : ∀ {vs : List Value} {ns : List Int}, IntsAre vs ns → IntsAre (vs ++ [.int n t]) (ns ++ [n])
  | _, _, .nil => .cons n t .nil
  | _, _, .cons m u h => .cons m u (ints_snoc h)
section
variable {prog : Program} {w : World} {A : Around} {s : Shared} {h₀ : Heap} {L : Addr} {m : PySem.Str → Option Value} {env : Env} {elt : Expr} {x : PySem.Str} {scope : Scope} {cl : List (PySem.Str × Addr)} {S : List (Addr × Obj) → Prop} {P : Nat → Value → Prop} {Fin : List Value → List (Addr × Obj) → Prop} {n : Nat}
theorem comp_inv (J : Nat → List Value → List (Addr × Obj) → Prop)
    (turn : ∀ i v ys news I oI C oC D m₂ h tk (E' : Value → Shared → Prop), i < n → P i v → J i ys news → LCg.NsObj oC m₂ → m₂ x = some v → Fr h₀ L h m → News h₀ L h ((I, oI) :: (C, oC) :: (D, LCg.lst ys) :: news) → LCg.Off3 I C D news → ((@Ne Nat I C) ∧ (@Ne Nat I D) ∧ (@Ne Nat C D)) →
      wpAny (model prog w) A (eval elt (compEnvC scope cl C env)) (LCg.CompEnd h₀ L m { s with heap := h, toks := tk } I oI C oC D (LCg.lst ys) S (fun y news' => J (i + 1) (ys ++ [y]) news')) E' { s with heap := h, toks := tk })
    (fin : ∀ ys news, J n ys news → Fin ys news) : ∀ (k i : Nat) (ys : List Value) (news : List (Addr × Obj)), i + k = n → J i ys news → LCg.CompRest prog w A h₀ L m env elt x scope cl s S P Fin k i ys news
  | 0, i, ys, news, e, hJ => fin ys news ((show i = n by omega) ▸ hJ)
  | k + 1, i, ys, news, e, hJ => fun v I oI C oC D m₂ h tk E' hP hC hx F N off ne =>
    wpAny_mono (turn i v ys news I oI C oC D m₂ h tk E' (by omega) hP hJ hC hx F N off ne) (fun y s₂ q => by
      obtain ⟨h', tk', news', e', F', N', off', hS, r⟩ := q
      exact ⟨h', tk', news', e', F', N', off', hS, comp_inv J turn fin k (i + 1) _ _ (by omega) r⟩) fun _ _ e => e
theorem comp_const {led : List (Addr × Obj)} (K : Nat → List Value → Prop)
    (turn : ∀ i v ys I oI C oC D m₂ h tk (E' : Value → Shared → Prop), i < n → P i v → K i ys → LCg.NsObj oC m₂ → m₂ x = some v → Fr h₀ L h m → News h₀ L h ((I, oI) :: (C, oC) :: (D, LCg.lst ys) :: led) → LCg.Off3 I C D led → ((@Ne Nat I C) ∧ (@Ne Nat I D) ∧ (@Ne Nat C D)) →
      wpAny (model prog w) A (eval elt (compEnvC scope cl C env)) (LCg.CompEnd h₀ L m { s with heap := h, toks := tk } I oI C oC D (LCg.lst ys) S (fun y news' => news' = led ∧ K (i + 1) (ys ++ [y]))) E' { s with heap := h, toks := tk })
    (fin : ∀ ys, K n ys → Fin ys led) (h0 : K 0 []) : LCg.CompRest prog w A h₀ L m env elt x scope cl s S P Fin n 0 [] led :=
  comp_inv (fun i ys nw => nw = led ∧ K i ys) (fun i v ys news I oI C oC D m₂ h tk E' hi hP hJ hC hx F N off ne => by
    obtain ⟨hn, hK⟩ := hJ
    subst hn
    exact turn i v ys I oI C oC D m₂ h tk E' hi hP hK hC hx F N off ne) (fun ys news hJ => by
    obtain ⟨hn, hK⟩ := hJ
    subst hn
    exact fin ys hK) n 0 [] led (Nat.zero_add _) ⟨rfl, h0⟩
theorem comp_end {I C D : Addr} {s₁ s₂ : Shared} {oI oC oD : Obj} {rest : Value → List (Addr × Obj) → Prop} {y : Value} {h' : Heap} {tk : Nat} {all news : List (Addr × Obj)} (hs : s₂ = { s₁ with heap := h', toks := tk })
    (F : Fr h₀ L h' m) (N : News h₀ L h' all) (hI : (I, oI) ∈ all) (hC : (C, oC) ∈ all) (hD : (D, oD) ∈ all) (sub : ∀ p ∈ news, p ∈ all) (off : LCg.Off3 I C D news) (hS : S news) (r : rest y news) : LCg.CompEnd h₀ L m s₁ I oI C oC D oD S rest y s₂ := by
  subst hs
  exact LCg.CompEnd.intro F N news (List.forall_mem_cons.mpr ⟨hI, List.forall_mem_cons.mpr ⟨hC, List.forall_mem_cons.mpr ⟨hD, sub⟩⟩⟩) off hS r
theorem comp_end_new {I C D : Addr} {s₁ s₂ : Shared} {oI oC oD : Obj} {rest : Value → List (Addr × Obj) → Prop} {y : Value} {h' : Heap} {tk : Nat} {x p1 p2 : Addr × Obj} {old : List (Addr × Obj)} (hs : s₂ = { s₁ with heap := h', toks := tk })
    (F : Fr h₀ L h' m) (N : News h₀ L h' (x :: p1 :: p2 :: (I, oI) :: (C, oC) :: (D, oD) :: old)) (ne : (@Ne Nat x.1 I) ∧ (@Ne Nat x.1 C) ∧ (@Ne Nat x.1 D)) (off : LCg.Off3 I C D old) (hS : S (x :: old)) (r : rest y (x :: old)) : LCg.CompEnd h₀ L m s₁ I oI C oC D oD S rest y s₂ :=
  comp_end hs F N (.tail _ (.tail _ (.tail _ (.head _)))) (.tail _ (.tail _ (.tail _ (.tail _ (.head _))))) (.tail _ (.tail _ (.tail _ (.tail _ (.tail _ (.head _))))))
    (List.forall_mem_cons.mpr ⟨.head _, fun _ hp => .tail _ (.tail _ (.tail _ (.tail _ (.tail _ (.tail _ hp)))))⟩) ⟨ne, off⟩ hS r
end
section
variable {prog : Program} {w : World} {A : Around} {E : Value → Shared → Prop} {s : Shared} {env : Env} {h₀ : Heap} {x : PySem.Str} {body : List Stmt} {Q : Flow → Shared → Prop}
theorem copy_end {L I : Addr} {it : Obj} {s₁ s₂ : Shared} {h' : Heap} {tk : Nat} {m' : PySem.Str → Option Value} {p1 p2 p3 p4 p5 : Addr × Obj} {R led : List (Addr × Obj)} {rest : (PySem.Str → Option Value) → List (Addr × Obj) → Prop} (hs : s₂ = { s₁ with heap := h', toks := tk })
    (F : Fr h₀ L h' m') (N : News h₀ L h' (p1 :: p2 :: p3 :: p4 :: (I, it) :: p5 :: (R ++ led))) (off : ∀ p ∈ p5 :: ((p1 :: p2 :: R) ++ led), p.1 ≠ I) (r : rest m' (p5 :: ((p1 :: p2 :: R) ++ led))) : UnrEnd h₀ L s₁ I it rest s₂ := by
  subst hs
  exact UnrEnd.intro F N _ (List.forall_mem_cons.mpr ⟨.tail _ (.tail _ (.tail _ (.tail _ (.head _)))), List.forall_mem_cons.mpr ⟨.tail _ (.tail _ (.tail _ (.tail _ (.tail _ (.head _))))), List.forall_mem_cons.mpr ⟨.head _, List.forall_mem_cons.mpr ⟨.tail _ (.head _),
    fun _ hp => .tail _ (.tail _ (.tail _ (.tail _ (.tail _ (.tail _ hp)))))⟩⟩⟩⟩) off r
theorem list_inv {I : Addr} {lp : Addr × Obj} (J : List Value → (PySem.Str → Option Value) → List (Addr × Obj) → Prop) (hlp : ∀ r m news, J r m news → lp ∈ news)
    (turn : ∀ (v : Value) (r : List Value) (it : Obj) h tk m news, it.cls = .type "list_iterator" → J (v :: r) m news → Fr h₀ env.locals h (fun y => if y = x then some v else m y) → News h₀ env.locals h ((I, it) :: news) →
      wpAny (model prog w) A (execs body env) (UnrPost h₀ env.locals { s with heap := h, toks := tk } I it (J r) Q) E { s with heap := h, toks := tk })
    (done : ∀ h tk m news, J [] m news → Fr h₀ env.locals h m → News h₀ env.locals h news → Q .next { s with heap := h, toks := tk }) :
    ∀ (vs : List Value) (m : PySem.Str → Option Value) (news : List (Addr × Obj)), J vs m news → ListRest prog w A E h₀ env x body Q s I lp vs m news
  | [], m, news, hJ => fun h tk F N => done h tk _ _ hJ F N
  | v :: r, m, news, hJ => fun it h tk hit F N => wpAny_mono (turn v r it h tk _ _ hit hJ F N) (fun f s₂ p => unr_mono (fun m' n' hj => ⟨hlp _ _ _ hj, list_inv J hlp turn done r m' n' hj⟩) f s₂ p) fun _ _ e => e
end
theorem rowsD_shape : ∀ rows : List Row, PyData.canLayAll0 (rows.map rowD) = true ∧ PyData.depthAll (rows.map rowD) ≤ 62
  | [] => by simp [PyData.canLayAll0, PyData.depthAll]
  | r :: rs => by
    obtain ⟨h1, h2⟩ := rowsD_shape rs
    simp only [List.map_cons, PyData.canLayAll0, PyData.depthAll, rowD, PyData.canLay0, PyData.depth, h1, Bool.and_self, true_and]
    simp
    omega
def toldD (kd : PySem.Str) (pr HH WW n : Int) (rows : List Row) : PyData := .tuple [.str kd, .int pr, .int HH, .int WW, .int n, rowsD rows]
theorem toldD_eqv (kd : PySem.Str) (pr HH WW n : Int) (rows : List Row) : PyData.eqv (toldD kd pr HH WW n rows) (toldD kd pr HH WW n rows) = true := by
  unfold toldD; simp only [PyData.eqv, PyData.eqvAll, rowsD_eqv, beq_self_eq_true, Bool.and_self]
def endD (H W : Int) (rows : List Row) : PyData := .tuple [.int H, .int W, rowsD rows]
theorem endD_eqv (H W : Int) (rows : List Row) : PyData.eqv (endD H W rows) (endD H W rows) = true := by
  unfold endD; simp only [PyData.eqv, PyData.eqvAll, rowsD_eqv, beq_self_eq_true, Bool.and_self]
abbrev tupN (vs : Array Value) : Obj := { cls := .type "tuple", data := .seq vs }
section
variable {prog : Program} {w : World} {A : Around} {E : Value → Shared → Prop} {s : Shared} {h₀ : Heap} {L lc D1 D2 rl1 rl2 : Addr} {all R1 R2 : List (Addr × Obj)} {rows : List Row} {kd : PySem.Str} {pr HH WW n : Int} {v1 v2 v3 v4 v5 u1 u2 u3 u4 u5 : Tok} {Q : Value → Shared → Prop}
theorem ne_told (hkd : PyData.strOk kd = true) (N : News h₀ L s.heap all)
    (m1 : (D1, tupN #[.str kd v1, .int pr v2, .int HH v3, .int WW v4, .int n v5, .ref rl1]) ∈ all) (m2 : (D2, tupN #[.str kd u1, .int pr u2, .int HH u3, .int WW u4, .int n u5, .ref rl2]) ∈ all)
    (r1 : RowsIn rl1 R1 rows) (r2 : RowsIn rl2 R2 rows) (s1 : ∀ p ∈ R1, p ∈ all) (s2 : ∀ p ∈ R2, p ∈ all) (hu : A.units + 64 < cLine) (h : Q (.bool false) s) :
    wpAny (model prog w) A (compareOp .NotEq (.ref D1) (.ref D2)) Q E s := by
  obtain ⟨as1, q1⟩ := r1.reads fun p hp => (N p (s1 p hp)).1
  obtain ⟨as2, q2⟩ := r2.reads fun p hp => (N p (s2 p hp)).1
  have t1 : Reads s.heap (.ref D1) (toldD kd pr HH WW n rows) _ := reads_tuple_at (N _ m1).1 rfl rfl (.cons (.str _ _) (.cons (.int _ _) (.cons (.int _ _) (.cons (.int _ _) (.cons (.int _ _) (.cons q1 .nil))))))
  have t2 : Reads s.heap (.ref D2) (toldD kd pr HH WW n rows) _ := reads_tuple_at (N _ m2).1 rfl rfl (.cons (.str _ _) (.cons (.int _ _) (.cons (.int _ _) (.cons (.int _ _) (.cons (.int _ _) (.cons q2 .nil))))))
  have hs : SeqAt.shaped (toldD kd pr HH WW n rows) = true := by simp [SeqAt.shaped, hkd, toldD, rowsD, rowD, PyData.canLay0, PyData.canLayAll0, PyData.depth, PyData.depthAll]; exact rowsD_shape rows
  refine ne_dataH t1 t2 hs hs hu ?_
  rw [toldD_eqv]; exact h
theorem eq_end (N : News h₀ L s.heap all)
    (m1 : (D1, tupN #[.int HH v1, .int WW v2, .ref rl1]) ∈ all) (m2 : (D2, tupN #[.int HH u1, .int WW u2, .ref rl2]) ∈ all)
    (r1 : RowsIn rl1 R1 rows) (r2 : RowsIn rl2 R2 rows) (s1 : ∀ p ∈ R1, p ∈ all) (s2 : ∀ p ∈ R2, p ∈ all) (hu : A.units + 64 < cLine) (h : Q (.bool true) s) :
    wpAny (model prog w) A (compareOp .Eq (.ref D1) (.ref D2)) Q E s := by
  obtain ⟨as1, q1⟩ := r1.reads fun p hp => (N p (s1 p hp)).1
  obtain ⟨as2, q2⟩ := r2.reads fun p hp => (N p (s2 p hp)).1
  have t1 : Reads s.heap (.ref D1) (endD HH WW rows) _ := reads_tuple_at (N _ m1).1 rfl rfl (.cons (.int _ _) (.cons (.int _ _) (.cons q1 .nil)))
  have t2 : Reads s.heap (.ref D2) (endD HH WW rows) _ := reads_tuple_at (N _ m2).1 rfl rfl (.cons (.int _ _) (.cons (.int _ _) (.cons q2 .nil)))
  have hs : SeqAt.shaped (endD HH WW rows) = true := by simp [SeqAt.shaped, endD, rowsD, rowD, PyData.canLay0, PyData.canLayAll0, PyData.depth, PyData.depthAll]; exact rowsD_shape rows
  refine eq_dataH t1 t2 hs hs hu ?_
  rw [endD_eqv]; exact h
end
end Mine
end
section
open PySem PySem.W PyProof.Rows
namespace Mine
theorem ma_c (w : World) {p : Program} {loose : List PySem.Str} {mean : ExcName → Option Value} {mg mb : PySem.Str → Option Value}
    {dp un : Nat} {gd : Option (List Code)} {cn : PySem.Str} {cs : Scope} {a : Addr} {ccd : Value} {cl : List (PySem.Str × Addr)} {outer : List Env} {A₀ : Around}
    {base h₀ : Heap} {L : Addr} {m : PySem.Str → Option Value} {s : Shared} {Q E : Value → Shared → Prop}
    {f fd lc : Addr} {pr H W n : Int} {kd : PySem.Str} {t1 t2 t3 t4 t5 t6 t7 t8 t9 t10 t11 : Tok} {full led : List (Addr × Obj)} {rows : List Row} {M : Int}
    (B : Below A₀ base outer h₀) (F : Fr h₀ L s.heap m) (X : (hd.heap_39 w.params).In h₀)
    (T : Top p loose mean mg mb h₀) (hk : cs.kind = .function) (hdp : dp + 5 < recursionLimit) (hun : un + 20 < cLine)
    (NF : News h₀ L s.heap full)
    (m0 : (f, instObj 143 fd) ∈ full)
    (m1 : (fd, dictOf [⟨PyData.keyHash w.params (Str.ofString "kind"), .str (Str.ofString "kind") t1, .str kd t2⟩, ⟨PyData.keyHash w.params (Str.ofString "precision"), .str (Str.ofString "precision") t3, .int pr t4⟩, ⟨PyData.keyHash w.params (Str.ofString "height"), .str (Str.ofString "height") t5, .int H t6⟩, ⟨PyData.keyHash w.params (Str.ofString "width"), .str (Str.ofString "width") t7, .int W t8⟩, ⟨PyData.keyHash w.params (Str.ofString "components"), .str (Str.ofString "components") t9, .ref lc⟩, ⟨PyData.keyHash w.params (Str.ofString "n"), .str (Str.ofString "n") t10, .int n t11⟩] 6) ∈ full) (hC : CompsIn w lc led rows) (hS : ∀ p ∈ led, p ∈ full) (hM : IsMax (rows.map rA) M)
    (hret : ∀ (t : Tok) (h' : Heap) (tk' : Nat), Fr h₀ L h' m → News h₀ L h' full → Q (.int M t) { s with heap := h', toks := tk' }) :
    wpAny (model PySem.Challenge.rw_xm0812_01.row.prog w) (ktrTop dp un gd cn cs L a ccd cl outer) (call (.ref 100) [.ref f]) Q E s := by
  obtain ⟨vs, nc, k0, hL, l1, l2⟩ := hC
  have hsz : vs.length ≤ 3 := by rw [hL.len]; exact l2
  have N : News h₀ L s.heap ((f, instObj 143 fd) :: (fd, dictOf [⟨PyData.keyHash w.params (Str.ofString "kind"), .str (Str.ofString "kind") t1, .str kd t2⟩, ⟨PyData.keyHash w.params (Str.ofString "precision"), .str (Str.ofString "precision") t3, .int pr t4⟩, ⟨PyData.keyHash w.params (Str.ofString "height"), .str (Str.ofString "height") t5, .int H t6⟩, ⟨PyData.keyHash w.params (Str.ofString "width"), .str (Str.ofString "width") t7, .int W t8⟩, ⟨PyData.keyHash w.params (Str.ofString "components"), .str (Str.ofString "components") t9, .ref lc⟩, ⟨PyData.keyHash w.params (Str.ofString "n"), .str (Str.ofString "n") t10, .int n t11⟩] 6) :: (lc, listOf vs.toArray nc) :: full) := news_cons NF m0 (news_cons NF m1 (news_cons NF (hS _ k0) NF))
  clear NF m0 m1
  revert X; k_fill; intro X
  refine wpAny_call ?_
  k_dflt cell_enter
  repeat' (first | ((with_reducible show wpAny _ _ (eval (Expr.ListComp _ _ _ _) _) _ _ _); (k_here; k_dflt (refine LCg.ListComp_U (F₀ := by k_asm) (by rfl) (by decide) (by rfl) (by decide) (by rfl) ?_))) | (k_unfold; (try dsimp only)) | (k_end; wrow_close) | walk1 | (dsimp only; walk1) | (leave1; walk_say "STEP leave1"; try dsimp only))
  refine LCg.CompSrc.ledger (by rfl) (by k_asm) (by k_asm) (by k_mem) (by simp only [List.size_toArray]; exact Nat.le_trans hsz (by rw [sizeLine_eq]; decide)) ?_
  intro g0
  refine comp_inv (fun i ys nw => nw = ((f, instObj 143 fd) :: (fd, dictOf [⟨PyData.keyHash w.params (Str.ofString "kind"), .str (Str.ofString "kind") t1, .str kd t2⟩, ⟨PyData.keyHash w.params (Str.ofString "precision"), .str (Str.ofString "precision") t3, .int pr t4⟩, ⟨PyData.keyHash w.params (Str.ofString "height"), .str (Str.ofString "height") t5, .int H t6⟩, ⟨PyData.keyHash w.params (Str.ofString "width"), .str (Str.ofString "width") t7, .int W t8⟩, ⟨PyData.keyHash w.params (Str.ofString "components"), .str (Str.ofString "components") t9, .ref lc⟩, ⟨PyData.keyHash w.params (Str.ofString "n"), .str (Str.ofString "n") t10, .int n t11⟩] 6) :: (lc, listOf vs.toArray nc) :: full) ∧ IntsAre ys ((rows.take i).map rA)) ?turn ?fin _ 0 [] _ (Nat.zero_add _) ⟨rfl, .nil⟩
  case turn =>
    intro i v ys news I oI C oC D m₂ h1 tk1 E1 hi hP hJ hC1 hx1 F1 N1 off1 ne1
    obtain ⟨hnw, hys⟩ := hJ
    subst hnw
    obtain ⟨c, d, i1, a1, b1, q1, t1', t2', t3', t4', t5', t6', t7', t8', hv, hr, c1, c2, g1, g2, g3, g4⟩ := hL.get (n := i) (v := v) (by simpa using hP)
    subst hv
    have N2 := news_cons N1 (p := (c, instObj 77 d)) (by simp only [List.mem_cons, List.mem_append, hS _ c1, or_true, true_or]) (news_cons N1 (p := (d, (dictOf [⟨PyData.keyHash w.params (Str.ofString "ident"), .str (Str.ofString "ident") t1', .int i1 t2'⟩, ⟨PyData.keyHash w.params (Str.ofString "across"), .str (Str.ofString "across") t3', .int a1 t4'⟩, ⟨PyData.keyHash w.params (Str.ofString "down"), .str (Str.ofString "down") t5', .int b1 t6'⟩, ⟨PyData.keyHash w.params (Str.ofString "quant"), .str (Str.ofString "quant") t7', .int q1 t8'⟩] 4))) (by simp only [List.mem_cons, List.mem_append, hS _ c2, or_true, true_or]) N1)
    clear N1
    repeat' (first | ((with_reducible show wpAny _ _ (eval (Expr.ListComp _ _ _ _) _) _ _ _); (k_here; k_dflt (refine LCg.ListComp_U (F₀ := by k_asm) (by rfl) (by decide) (by rfl) (by decide) (by rfl) ?_))) | (k_unfold; (try dsimp only)) | (k_end; wrow_close) | walk1 | (dsimp only; walk1) | (leave1; walk_say "STEP leave1"; try dsimp only))
    refine comp_end rfl (by k_asm) (by k_asm) (by k_mem) (by k_mem) (by k_mem) ?sub off1 (by k_dflt lcg_src) ⟨rfl, ?zi⟩
    case sub => (intro p9 hp9; (try simp only [List.mem_append] at hp9); simp only [List.mem_cons, List.mem_append, hp9, or_true, true_or])
    case zi => rw [take_snoc hr, List.map_append]; exact ints_snoc hys
  case fin =>
    intro ys nw hJ
    obtain ⟨hnw, hys⟩ := hJ
    subst hnw
    rw [List.size_toArray, hL.len, List.take_length] at hys
    unfold LCg.FinE
    intro D1 h1 tk1 F1 N1 o1
    clear o1
    (try dsimp only)
    repeat' (first | ((with_reducible show wpAny _ _ (eval (Expr.ListComp _ _ _ _) _) _ _ _); (k_here; k_dflt (refine LCg.ListComp_U (F₀ := by k_asm) (by rfl) (by decide) (by rfl) (by decide) (by rfl) ?_))) | (k_unfold; (try dsimp only)) | (k_end; wrow_close) | walk1 | (dsimp only; walk1) | (leave1; walk_say "STEP leave1"; try dsimp only))
    rename News h₀ L _ _ => N9
    rename Fr h₀ L _ _ => F9
    have fin : ∀ (M2 : Int) (t : Tok) (h' : Heap) (tk' : Nat), M2 = M → Fr h₀ L h' m → News h₀ L h' full → Q (.int M2 t) { s with heap := h', toks := tk' } := fun M2 t h' tk' e F' N' => by subst e; exact hret t h' tk' F' N'
    exact fin _ _ _ _ (IsMax.eq (show IsMax (rows.map rA) _ from ⟨by assumption, by assumption⟩) hM) F9 (news_tl (news_tl (news_tl (news_tl N9))))
theorem md_c (w : World) {p : Program} {loose : List PySem.Str} {mean : ExcName → Option Value} {mg mb : PySem.Str → Option Value}
    {dp un : Nat} {gd : Option (List Code)} {cn : PySem.Str} {cs : Scope} {a : Addr} {ccd : Value} {cl : List (PySem.Str × Addr)} {outer : List Env} {A₀ : Around}
    {base h₀ : Heap} {L : Addr} {m : PySem.Str → Option Value} {s : Shared} {Q E : Value → Shared → Prop}
    {f fd lc : Addr} {pr H W n : Int} {kd : PySem.Str} {t1 t2 t3 t4 t5 t6 t7 t8 t9 t10 t11 : Tok} {full led : List (Addr × Obj)} {rows : List Row} {M : Int}
    (B : Below A₀ base outer h₀) (F : Fr h₀ L s.heap m) (X : (hd.heap_39 w.params).In h₀)
    (T : Top p loose mean mg mb h₀) (hk : cs.kind = .function) (hdp : dp + 5 < recursionLimit) (hun : un + 20 < cLine)
    (NF : News h₀ L s.heap full)
    (m0 : (f, instObj 143 fd) ∈ full)
    (m1 : (fd, dictOf [⟨PyData.keyHash w.params (Str.ofString "kind"), .str (Str.ofString "kind") t1, .str kd t2⟩, ⟨PyData.keyHash w.params (Str.ofString "precision"), .str (Str.ofString "precision") t3, .int pr t4⟩, ⟨PyData.keyHash w.params (Str.ofString "height"), .str (Str.ofString "height") t5, .int H t6⟩, ⟨PyData.keyHash w.params (Str.ofString "width"), .str (Str.ofString "width") t7, .int W t8⟩, ⟨PyData.keyHash w.params (Str.ofString "components"), .str (Str.ofString "components") t9, .ref lc⟩, ⟨PyData.keyHash w.params (Str.ofString "n"), .str (Str.ofString "n") t10, .int n t11⟩] 6) ∈ full) (hC : CompsIn w lc led rows) (hS : ∀ p ∈ led, p ∈ full) (hM : IsMax (rows.map rB) M)
    (hret : ∀ (t : Tok) (h' : Heap) (tk' : Nat), Fr h₀ L h' m → News h₀ L h' full → Q (.int M t) { s with heap := h', toks := tk' }) :
    wpAny (model PySem.Challenge.rw_xm0812_01.row.prog w) (ktrTop dp un gd cn cs L a ccd cl outer) (call (.ref 105) [.ref f]) Q E s := by
  obtain ⟨vs, nc, k0, hL, l1, l2⟩ := hC
  have hsz : vs.length ≤ 3 := by rw [hL.len]; exact l2
  have N : News h₀ L s.heap ((f, instObj 143 fd) :: (fd, dictOf [⟨PyData.keyHash w.params (Str.ofString "kind"), .str (Str.ofString "kind") t1, .str kd t2⟩, ⟨PyData.keyHash w.params (Str.ofString "precision"), .str (Str.ofString "precision") t3, .int pr t4⟩, ⟨PyData.keyHash w.params (Str.ofString "height"), .str (Str.ofString "height") t5, .int H t6⟩, ⟨PyData.keyHash w.params (Str.ofString "width"), .str (Str.ofString "width") t7, .int W t8⟩, ⟨PyData.keyHash w.params (Str.ofString "components"), .str (Str.ofString "components") t9, .ref lc⟩, ⟨PyData.keyHash w.params (Str.ofString "n"), .str (Str.ofString "n") t10, .int n t11⟩] 6) :: (lc, listOf vs.toArray nc) :: full) := news_cons NF m0 (news_cons NF m1 (news_cons NF (hS _ k0) NF))
  clear NF m0 m1
  revert X; k_fill; intro X
  refine wpAny_call ?_
  k_dflt cell_enter
  repeat' (first | ((with_reducible show wpAny _ _ (eval (Expr.ListComp _ _ _ _) _) _ _ _); (k_here; k_dflt (refine LCg.ListComp_U (F₀ := by k_asm) (by rfl) (by decide) (by rfl) (by decide) (by rfl) ?_))) | (k_unfold; (try dsimp only)) | (k_end; wrow_close) | walk1 | (dsimp only; walk1) | (leave1; walk_say "STEP leave1"; try dsimp only))
  refine LCg.CompSrc.ledger (by rfl) (by k_asm) (by k_asm) (by k_mem) (by simp only [List.size_toArray]; exact Nat.le_trans hsz (by rw [sizeLine_eq]; decide)) ?_
  intro g0
  refine comp_inv (fun i ys nw => nw = ((f, instObj 143 fd) :: (fd, dictOf [⟨PyData.keyHash w.params (Str.ofString "kind"), .str (Str.ofString "kind") t1, .str kd t2⟩, ⟨PyData.keyHash w.params (Str.ofString "precision"), .str (Str.ofString "precision") t3, .int pr t4⟩, ⟨PyData.keyHash w.params (Str.ofString "height"), .str (Str.ofString "height") t5, .int H t6⟩, ⟨PyData.keyHash w.params (Str.ofString "width"), .str (Str.ofString "width") t7, .int W t8⟩, ⟨PyData.keyHash w.params (Str.ofString "components"), .str (Str.ofString "components") t9, .ref lc⟩, ⟨PyData.keyHash w.params (Str.ofString "n"), .str (Str.ofString "n") t10, .int n t11⟩] 6) :: (lc, listOf vs.toArray nc) :: full) ∧ IntsAre ys ((rows.take i).map rB)) ?turn ?fin _ 0 [] _ (Nat.zero_add _) ⟨rfl, .nil⟩
  case turn =>
    intro i v ys news I oI C oC D m₂ h1 tk1 E1 hi hP hJ hC1 hx1 F1 N1 off1 ne1
    obtain ⟨hnw, hys⟩ := hJ
    subst hnw
    obtain ⟨c, d, i1, a1, b1, q1, t1', t2', t3', t4', t5', t6', t7', t8', hv, hr, c1, c2, g1, g2, g3, g4⟩ := hL.get (n := i) (v := v) (by simpa using hP)
    subst hv
    have N2 := news_cons N1 (p := (c, instObj 77 d)) (by simp only [List.mem_cons, List.mem_append, hS _ c1, or_true, true_or]) (news_cons N1 (p := (d, (dictOf [⟨PyData.keyHash w.params (Str.ofString "ident"), .str (Str.ofString "ident") t1', .int i1 t2'⟩, ⟨PyData.keyHash w.params (Str.ofString "across"), .str (Str.ofString "across") t3', .int a1 t4'⟩, ⟨PyData.keyHash w.params (Str.ofString "down"), .str (Str.ofString "down") t5', .int b1 t6'⟩, ⟨PyData.keyHash w.params (Str.ofString "quant"), .str (Str.ofString "quant") t7', .int q1 t8'⟩] 4))) (by simp only [List.mem_cons, List.mem_append, hS _ c2, or_true, true_or]) N1)
    clear N1
    repeat' (first | ((with_reducible show wpAny _ _ (eval (Expr.ListComp _ _ _ _) _) _ _ _); (k_here; k_dflt (refine LCg.ListComp_U (F₀ := by k_asm) (by rfl) (by decide) (by rfl) (by decide) (by rfl) ?_))) | (k_unfold; (try dsimp only)) | (k_end; wrow_close) | walk1 | (dsimp only; walk1) | (leave1; walk_say "STEP leave1"; try dsimp only))
    refine comp_end rfl (by k_asm) (by k_asm) (by k_mem) (by k_mem) (by k_mem) ?sub off1 (by k_dflt lcg_src) ⟨rfl, ?zi⟩
    case sub => (intro p9 hp9; (try simp only [List.mem_append] at hp9); simp only [List.mem_cons, List.mem_append, hp9, or_true, true_or])
    case zi => rw [take_snoc hr, List.map_append]; exact ints_snoc hys
  case fin =>
    intro ys nw hJ
    obtain ⟨hnw, hys⟩ := hJ
    subst hnw
    rw [List.size_toArray, hL.len, List.take_length] at hys
    unfold LCg.FinE
    intro D1 h1 tk1 F1 N1 o1
    clear o1
    (try dsimp only)
    repeat' (first | ((with_reducible show wpAny _ _ (eval (Expr.ListComp _ _ _ _) _) _ _ _); (k_here; k_dflt (refine LCg.ListComp_U (F₀ := by k_asm) (by rfl) (by decide) (by rfl) (by decide) (by rfl) ?_))) | (k_unfold; (try dsimp only)) | (k_end; wrow_close) | walk1 | (dsimp only; walk1) | (leave1; walk_say "STEP leave1"; try dsimp only))
    rename News h₀ L _ _ => N9
    rename Fr h₀ L _ _ => F9
    have fin : ∀ (M2 : Int) (t : Tok) (h' : Heap) (tk' : Nat), M2 = M → Fr h₀ L h' m → News h₀ L h' full → Q (.int M2 t) { s with heap := h', toks := tk' } := fun M2 t h' tk' e F' N' => by subst e; exact hret t h' tk' F' N'
    exact fin _ _ _ _ (IsMax.eq (show IsMax (rows.map rB) _ from ⟨by assumption, by assumption⟩) hM) F9 (news_tl (news_tl (news_tl (news_tl N9))))
end Mine
end
section
open PySem PySem.W PyProof.Rows
namespace Mine
theorem rows_c (w : World) {p : Program} {loose : List PySem.Str} {mean : ExcName → Option Value} {mg mb : PySem.Str → Option Value}
    {dp un : Nat} {gd : Option (List Code)} {cn : PySem.Str} {cs : Scope} {a : Addr} {ccd : Value} {cl : List (PySem.Str × Addr)} {outer : List Env} {A₀ : Around}
    {base h₀ : Heap} {L : Addr} {m : PySem.Str → Option Value} {s : Shared} {Q E : Value → Shared → Prop}
    {f fd lc : Addr} {pr H W n : Int} {kd : PySem.Str} {t1 t2 t3 t4 t5 t6 t7 t8 t9 t10 t11 : Tok} {full led : List (Addr × Obj)} {rows : List Row}
    (B : Below A₀ base outer h₀) (F : Fr h₀ L s.heap m) (X : (hd.heap_39 w.params).In h₀)
    (T : Top p loose mean mg mb h₀) (hk : cs.kind = .function) (hdp : dp + 5 < recursionLimit) (hun : un + 20 < cLine)
    (NF : News h₀ L s.heap full)
    (m0 : (f, instObj 143 fd) ∈ full)
    (m1 : (fd, dictOf [⟨PyData.keyHash w.params (Str.ofString "kind"), .str (Str.ofString "kind") t1, .str kd t2⟩, ⟨PyData.keyHash w.params (Str.ofString "precision"), .str (Str.ofString "precision") t3, .int pr t4⟩, ⟨PyData.keyHash w.params (Str.ofString "height"), .str (Str.ofString "height") t5, .int H t6⟩, ⟨PyData.keyHash w.params (Str.ofString "width"), .str (Str.ofString "width") t7, .int W t8⟩, ⟨PyData.keyHash w.params (Str.ofString "components"), .str (Str.ofString "components") t9, .ref lc⟩, ⟨PyData.keyHash w.params (Str.ofString "n"), .str (Str.ofString "n") t10, .int n t11⟩] 6) ∈ full) (hC : CompsIn w lc led rows) (hS : ∀ p ∈ led, p ∈ full)
    (hret : ∀ (rl : Addr) (R : List (Addr × Obj)) (h' : Heap) (tk' : Nat), Fr h₀ L h' m → News h₀ L h' full → News h₀ L h' R → RowsIn rl R rows → (∀ p ∈ R, Inert p.2) → Q (.ref rl) { s with heap := h', toks := tk' }) :
    wpAny (model PySem.Challenge.rw_xm0812_01.row.prog w) (ktrTop dp un gd cn cs L a ccd cl outer) (call (.ref 194) [.ref f]) Q E s := by
  obtain ⟨vs, nc, k0, hL, l1, l2⟩ := hC
  have hsz : vs.length ≤ 3 := by rw [hL.len]; exact l2
  have N : News h₀ L s.heap ((f, instObj 143 fd) :: (fd, dictOf [⟨PyData.keyHash w.params (Str.ofString "kind"), .str (Str.ofString "kind") t1, .str kd t2⟩, ⟨PyData.keyHash w.params (Str.ofString "precision"), .str (Str.ofString "precision") t3, .int pr t4⟩, ⟨PyData.keyHash w.params (Str.ofString "height"), .str (Str.ofString "height") t5, .int H t6⟩, ⟨PyData.keyHash w.params (Str.ofString "width"), .str (Str.ofString "width") t7, .int W t8⟩, ⟨PyData.keyHash w.params (Str.ofString "components"), .str (Str.ofString "components") t9, .ref lc⟩, ⟨PyData.keyHash w.params (Str.ofString "n"), .str (Str.ofString "n") t10, .int n t11⟩] 6) :: (lc, listOf vs.toArray nc) :: full) := news_cons NF m0 (news_cons NF m1 (news_cons NF (hS _ k0) NF))
  clear NF m0 m1
  revert X; k_fill; intro X
  refine wpAny_call ?_
  k_dflt cell_enter
  repeat' (first | ((with_reducible show wpAny _ _ (eval (Expr.ListComp _ _ _ _) _) _ _ _); (k_here; k_dflt (refine LCg.ListComp_U (F₀ := by k_asm) (by rfl) (by decide) (by rfl) (by decide) (by rfl) ?_))) | (k_unfold; (try dsimp only)) | (k_end; wrow_close) | walk1 | (dsimp only; walk1) | (leave1; walk_say "STEP leave1"; try dsimp only))
  refine LCg.CompSrc.ledger (by rfl) (by k_asm) (by k_asm) (by k_mem) (by simp only [List.size_toArray]; exact Nat.le_trans hsz (by rw [sizeLine_eq]; decide)) ?_
  intro g0
  refine comp_inv (fun i ys nw => ∃ R, nw = R ++ ((f, instObj 143 fd) :: (fd, dictOf [⟨PyData.keyHash w.params (Str.ofString "kind"), .str (Str.ofString "kind") t1, .str kd t2⟩, ⟨PyData.keyHash w.params (Str.ofString "precision"), .str (Str.ofString "precision") t3, .int pr t4⟩, ⟨PyData.keyHash w.params (Str.ofString "height"), .str (Str.ofString "height") t5, .int H t6⟩, ⟨PyData.keyHash w.params (Str.ofString "width"), .str (Str.ofString "width") t7, .int W t8⟩, ⟨PyData.keyHash w.params (Str.ofString "components"), .str (Str.ofString "components") t9, .ref lc⟩, ⟨PyData.keyHash w.params (Str.ofString "n"), .str (Str.ofString "n") t10, .int n t11⟩] 6) :: (lc, listOf vs.toArray nc) :: full) ∧ RowsL R ys (rows.take i) ∧ ∀ p ∈ R, Inert p.2) ?turn ?fin _ 0 [] _ (Nat.zero_add _) ⟨[], rfl, .nil, fun _ h => nomatch h⟩
  case turn =>
    intro i v ys news I oI C oC D m₂ h1 tk1 E1 hi hP hJ hC1 hx1 F1 N1 off1 ne1
    obtain ⟨R, hnw, hys, hin⟩ := hJ
    subst hnw
    obtain ⟨c, d, i1, a1, b1, q1, t1', t2', t3', t4', t5', t6', t7', t8', hv, hr, c1, c2, g1, g2, g3, g4⟩ := hL.get (n := i) (v := v) (by simpa using hP)
    subst hv
    have N2 := news_cons N1 (p := (c, instObj 77 d)) (by simp only [List.mem_cons, List.mem_append, hS _ c1, or_true, true_or]) (news_cons N1 (p := (d, (dictOf [⟨PyData.keyHash w.params (Str.ofString "ident"), .str (Str.ofString "ident") t1', .int i1 t2'⟩, ⟨PyData.keyHash w.params (Str.ofString "across"), .str (Str.ofString "across") t3', .int a1 t4'⟩, ⟨PyData.keyHash w.params (Str.ofString "down"), .str (Str.ofString "down") t5', .int b1 t6'⟩, ⟨PyData.keyHash w.params (Str.ofString "quant"), .str (Str.ofString "quant") t7', .int q1 t8'⟩] 4))) (by simp only [List.mem_cons, List.mem_append, hS _ c2, or_true, true_or]) N1)
    clear N1
    repeat' (first | ((with_reducible show wpAny _ _ (eval (Expr.ListComp _ _ _ _) _) _ _ _); (k_here; k_dflt (refine LCg.ListComp_U (F₀ := by k_asm) (by rfl) (by decide) (by rfl) (by decide) (by rfl) ?_))) | (k_unfold; (try dsimp only)) | (k_end; wrow_close) | walk1 | (dsimp only; walk1) | (leave1; walk_say "STEP leave1"; try dsimp only))
    rename News _ _ _ _ => N8
    refine comp_end_new rfl (by k_asm) N8 ?ne off1 ?zs ⟨_ :: R, rfl, ?za, ?zb⟩
    case ne => exact ⟨neN (by (try dsimp only); omega), neN (by (try dsimp only); omega), neN (by (try dsimp only); omega)⟩
    case zs => exact .inr ⟨_, .tail _ (List.mem_append_right _ (.tail _ (.tail _ (.head _)))), rfl, _, rfl⟩
    case za => rw [take_snoc hr]; exact RowsL.snoc (.head _) (hys.mono fun p hp => .tail _ hp)
    case zb => exact List.forall_mem_cons.mpr ⟨inert_cls (by k_cls) (by k_cls), hin⟩
  case fin =>
    intro ys nw hJ
    obtain ⟨R, hnw, hys, hin⟩ := hJ
    subst hnw
    rw [List.size_toArray, hL.len, List.take_length] at hys
    unfold LCg.FinE
    intro D1 h1 tk1 F1 N1 o1
    clear o1
    (try dsimp only)
    repeat' (first | ((with_reducible show wpAny _ _ (eval (Expr.ListComp _ _ _ _) _) _ _ _); (k_here; k_dflt (refine LCg.ListComp_U (F₀ := by k_asm) (by rfl) (by decide) (by rfl) (by decide) (by rfl) ?_))) | (k_unfold; (try dsimp only)) | (k_end; wrow_close) | walk1 | (dsimp only; walk1) | (leave1; walk_say "STEP leave1"; try dsimp only))
    rename News h₀ L _ _ => N9
    rename Fr h₀ L _ _ => F9
    refine hret _ ((D1, LCg.lst ys) :: R) _ _ F9 (fun p hp => N9 p ?m1) (fun p hp => N9 p ?m2) ⟨ys, .head _, hys.mono fun p hp => .tail _ hp⟩ (List.forall_mem_cons.mpr ⟨?za, hin⟩)
    case m1 => exact .tail _ (List.mem_append_right _ (.tail _ (.tail _ (.tail _ hp))))
    case m2 =>
      rcases List.mem_cons.mp hp with e9 | hp
      · rw [e9]; exact .head _
      · exact .tail _ (List.mem_append_left _ hp)
    case za => exact inert_any _ hys
end Mine
end
section
open PySem PySem.W PyProof.Rows
namespace Mine
local macro_rules | `(tactic| k_all) => `(tactic| assumption)
theorem copy_c (w : World) {p : Program} {loose : List PySem.Str} {mean : ExcName → Option Value} {mg mb : PySem.Str → Option Value}
    {dp un : Nat} {gd : Option (List Code)} {cn : PySem.Str} {cs : Scope} {a : Addr} {ccd : Value} {cl : List (PySem.Str × Addr)} {outer : List Env} {A₀ : Around}
    {base h₀ : Heap} {L : Addr} {m : PySem.Str → Option Value} {s : Shared} {Q E : Value → Shared → Prop}
    {f fd lc : Addr} {pr H W n : Int} {kd : PySem.Str} {t1 t2 t3 t4 t5 t6 t7 t8 t9 t10 t11 : Tok} {full led : List (Addr × Obj)} {rows : List Row}
    (B : Below A₀ base outer h₀) (F : Fr h₀ L s.heap m) (X : (hd.heap_39 w.params).In h₀)
    (T : Top p loose mean mg mb h₀) (hk : cs.kind = .function) (hdp : dp + 12 < recursionLimit) (hun : un + 40 < cLine)
    (NF : News h₀ L s.heap full)
    (m0 : (f, instObj 143 fd) ∈ full)
    (m1 : (fd, dictOf [⟨PyData.keyHash w.params (Str.ofString "kind"), .str (Str.ofString "kind") t1, .str kd t2⟩, ⟨PyData.keyHash w.params (Str.ofString "precision"), .str (Str.ofString "precision") t3, .int pr t4⟩, ⟨PyData.keyHash w.params (Str.ofString "height"), .str (Str.ofString "height") t5, .int H t6⟩, ⟨PyData.keyHash w.params (Str.ofString "width"), .str (Str.ofString "width") t7, .int W t8⟩, ⟨PyData.keyHash w.params (Str.ofString "components"), .str (Str.ofString "components") t9, .ref lc⟩, ⟨PyData.keyHash w.params (Str.ofString "n"), .str (Str.ofString "n") t10, .int n t11⟩] 6) ∈ full) (hC : CompsIn w lc led rows) (hS : ∀ p ∈ led, p ∈ full)
    (hret : ∀ (lc2 : Addr) (R : List (Addr × Obj)) (h' : Heap) (tk' : Nat), Fr h₀ L h' m → News h₀ L h' full → News h₀ L h' R → CompsIn w lc2 R rows → Q (.ref lc2) { s with heap := h', toks := tk' }) :
    wpAny (model PySem.Challenge.rw_xm0812_01.row.prog w) (ktrTop dp un gd cn cs L a ccd cl outer) (call (.ref 161) [.ref f]) Q E s := by
  obtain ⟨vs, nc, k0, hL, l1, l2⟩ := hC
  have hsz : vs.length ≤ 3 := by rw [hL.len]; exact l2
  have N : News h₀ L s.heap ((f, instObj 143 fd) :: (fd, dictOf [⟨PyData.keyHash w.params (Str.ofString "kind"), .str (Str.ofString "kind") t1, .str kd t2⟩, ⟨PyData.keyHash w.params (Str.ofString "precision"), .str (Str.ofString "precision") t3, .int pr t4⟩, ⟨PyData.keyHash w.params (Str.ofString "height"), .str (Str.ofString "height") t5, .int H t6⟩, ⟨PyData.keyHash w.params (Str.ofString "width"), .str (Str.ofString "width") t7, .int W t8⟩, ⟨PyData.keyHash w.params (Str.ofString "components"), .str (Str.ofString "components") t9, .ref lc⟩, ⟨PyData.keyHash w.params (Str.ofString "n"), .str (Str.ofString "n") t10, .int n t11⟩] 6) :: (lc, listOf vs.toArray nc) :: full) := news_cons NF m0 (news_cons NF m1 (news_cons NF (hS _ k0) NF))
  clear NF m0 m1
  revert X; k_fill; intro X
  refine wpAny_call ?_
  k_dflt cell_enter
  repeat' (first | ((with_reducible show wpAny _ _ (eval (Expr.ListComp _ _ _ _) _) _ _ _); (k_here; k_dflt (refine LCg.ListComp_U (F₀ := by k_asm) (by rfl) (by decide) (by rfl) (by decide) (by rfl) ?_))) | (k_unfold; (try dsimp only)) | (k_end; wrow_close) | walk1 | (dsimp only; walk1) | (leave1; walk_say "STEP leave1"; try dsimp only))
  rename_i fo h5 l9 h6 F9 N9
  have hlt := allLt_mem (l := ((f, instObj 143 fd) :: (fd, dictOf [⟨PyData.keyHash w.params (Str.ofString "kind"), .str (Str.ofString "kind") t1, .str kd t2⟩, ⟨PyData.keyHash w.params (Str.ofString "precision"), .str (Str.ofString "precision") t3, .int pr t4⟩, ⟨PyData.keyHash w.params (Str.ofString "height"), .str (Str.ofString "height") t5, .int H t6⟩, ⟨PyData.keyHash w.params (Str.ofString "width"), .str (Str.ofString "width") t7, .int W t8⟩, ⟨PyData.keyHash w.params (Str.ofString "components"), .str (Str.ofString "components") t9, .ref lc⟩, ⟨PyData.keyHash w.params (Str.ofString "n"), .str (Str.ofString "n") t10, .int n t11⟩] 6) :: (lc, listOf vs.toArray nc) :: full)) l9
  refine iter_listUnr (lo := listOf vs.toArray nc) (vs := vs) (by rfl) F9 N9 (by k_mem) rfl rfl ?_
  intro I1 lI
  clear F9 N9 N l9
  have fI : @LT.lt Nat _ fo I1 := lI _ (.head _)
  refine list_inv (fun r mm nw => ∃ (i : Nat) (R : List (Addr × Obj)) (ys : List Value) (k : Nat), r = vs.drop i ∧ mm (Str.ofString "found") = some (.ref fo) ∧ nw = (fo, listOf ys.toArray k) :: (R ++ ((f, instObj 143 fd) :: (fd, dictOf [⟨PyData.keyHash w.params (Str.ofString "kind"), .str (Str.ofString "kind") t1, .str kd t2⟩, ⟨PyData.keyHash w.params (Str.ofString "precision"), .str (Str.ofString "precision") t3, .int pr t4⟩, ⟨PyData.keyHash w.params (Str.ofString "height"), .str (Str.ofString "height") t5, .int H t6⟩, ⟨PyData.keyHash w.params (Str.ofString "width"), .str (Str.ofString "width") t7, .int W t8⟩, ⟨PyData.keyHash w.params (Str.ofString "components"), .str (Str.ofString "components") t9, .ref lc⟩, ⟨PyData.keyHash w.params (Str.ofString "n"), .str (Str.ofString "n") t10, .int n t11⟩] 6) :: (lc, listOf vs.toArray nc) :: full)) ∧ CompsL w R ys (rows.take i) ∧ ∀ p ∈ R, @LT.lt Nat _ I1 p.1) ?hlp ?turn ?done vs _ _ ⟨0, [], [], 0, rfl, rfl, rfl, .nil, fun _ h => nomatch h⟩
  case hlp =>
    intro r mm nw hJ
    obtain ⟨i, R, ys, k, -, -, hnw, -, -⟩ := hJ
    subst hnw
    exact .tail _ (List.mem_append_right _ (.tail _ (.tail _ (.head _))))
  case turn =>
    intro v r it h1 tk1 mm nw hit hJ F1 N1
    obtain ⟨i, R, ys, k, hr1, hf, hnw, hys, hR⟩ := hJ
    subst hnw
    obtain ⟨hv0, hr2⟩ := drop_cons hr1
    obtain ⟨c, d, i1, a1, b1, q1, t1', t2', t3', t4', t5', t6', t7', t8', hv, hr, c1, c2, g1, g2, g3, g4⟩ := hL.get hv0
    subst hv
    have lc1 : @LT.lt Nat _ c fo := hlt _ (.tail _ (.tail _ (.tail _ (hS _ c1))))
    have lc2 : @LT.lt Nat _ d fo := hlt _ (.tail _ (.tail _ (.tail _ (hS _ c2))))
    have hoff : ∀ p ∈ R ++ ((f, instObj 143 fd) :: (fd, dictOf [⟨PyData.keyHash w.params (Str.ofString "kind"), .str (Str.ofString "kind") t1, .str kd t2⟩, ⟨PyData.keyHash w.params (Str.ofString "precision"), .str (Str.ofString "precision") t3, .int pr t4⟩, ⟨PyData.keyHash w.params (Str.ofString "height"), .str (Str.ofString "height") t5, .int H t6⟩, ⟨PyData.keyHash w.params (Str.ofString "width"), .str (Str.ofString "width") t7, .int W t8⟩, ⟨PyData.keyHash w.params (Str.ofString "components"), .str (Str.ofString "components") t9, .ref lc⟩, ⟨PyData.keyHash w.params (Str.ofString "n"), .str (Str.ofString "n") t10, .int n t11⟩] 6) :: (lc, listOf vs.toArray nc) :: full), @Ne Nat p.1 fo := fun p hp => by
      rcases List.mem_append.mp hp with hp | hp
      · exact Ne.symm (Nat.ne_of_lt (Nat.lt_trans fI (hR p hp)))
      · exact Nat.ne_of_lt (hlt p hp)
    have N2 := news_cons N1 (p := (c, instObj 77 d)) (.tail _ (.tail _ (List.mem_append_right _ (.tail _ (.tail _ (.tail _ (hS _ c1))))))) (news_cons N1 (p := (d, (dictOf [⟨PyData.keyHash w.params (Str.ofString "ident"), .str (Str.ofString "ident") t1', .int i1 t2'⟩, ⟨PyData.keyHash w.params (Str.ofString "across"), .str (Str.ofString "across") t3', .int a1 t4'⟩, ⟨PyData.keyHash w.params (Str.ofString "down"), .str (Str.ofString "down") t5', .int b1 t6'⟩, ⟨PyData.keyHash w.params (Str.ofString "quant"), .str (Str.ofString "quant") t7', .int q1 t8'⟩] 4))) (.tail _ (.tail _ (List.mem_append_right _ (.tail _ (.tail _ (.tail _ (hS _ c2))))))) N1)
    clear N1
    repeat' (first | ((with_reducible show wpAny _ _ (eval (Expr.ListComp _ _ _ _) _) _ _ _); (k_here; k_dflt (refine LCg.ListComp_U (F₀ := by k_asm) (by rfl) (by decide) (by rfl) (by decide) (by rfl) ?_))) | (k_here; (with_reducible show wpAny _ _ (PySem.call (Value.ref 77) _ _) _ _ _); refine' mk_comp _ ?zB ?zF ?zX ?zT ?zk ?zd ?zu ?zN ?_; (case zB => k_asm); (case zF => k_asm); (case zX => k_asm); (case zN => k_asm); (case zT => k_asm); (case zk => exact rfl); (case zd => ktr_room); (case zu => ktr_units); intro x8 d8 u81 u82 u83 u84 h8 tk8 F8 N8 l81 l82; walk_say "COMPONENT") | (k_here; (with_reducible show wpAny _ _ (eval (Expr.Name (Str.ofString "found") _) _) _ _ _); refine' ld ?z1 ?z2 ?_; (case z1 => k_asm); (case z2 => exact hf); walk_say "FOUND") | (k_unfold; (try dsimp only)) | (k_end; wrow_close) | walk1 | (dsimp only; walk1) | (leave1; walk_say "STEP leave1"; try dsimp only))
    have hyl : ys.length ≤ 3 := by have := hys.len; have := List.length_take_le i rows; have := List.length_take_le' i rows; omega
    have e1 : @LT.lt Nat _ fo d8 := l81 (fo, listOf ys.toArray k) (.tail _ (.tail _ (.tail _ (.head _))))
    have e2 : @LT.lt Nat _ I1 d8 := l81 (I1, it) (.tail _ (.tail _ (.head _)))
    have e3 : @LT.lt Nat _ fo x8 := Nat.lt_trans e1 l82
    have e4 : @LT.lt Nat _ d8 x8 := l82
    refine' append_K (its := ys.toArray) (n := k) ?k1 ?k2 ?k3 ?_ ?z
    case k1 => k_asm
    case k2 => k_asm
    case k3 => k_dflt k_upd
    case z => simp only [List.size_toArray]; exact Nat.le_trans hyl (by rw [sizeLine_eq]; decide)
    intro h9 F9 N9
    simp only [List.push_toArray] at N9
    repeat' (first | ((with_reducible show wpAny _ _ (eval (Expr.ListComp _ _ _ _) _) _ _ _); (k_here; k_dflt (refine LCg.ListComp_U (F₀ := by k_asm) (by rfl) (by decide) (by rfl) (by decide) (by rfl) ?_))) | (k_unfold; (try dsimp only)) | (k_end; wrow_close) | walk1 | (dsimp only; walk1) | (leave1; walk_say "STEP leave1"; try dsimp only))
    rename News _ _ _ _ => N8
    rename Fr _ _ _ _ => F8
    refine copy_end rfl F8 N8 ?off ⟨i + 1, _ :: _ :: R, ys ++ [Value.ref x8], k + 1, hr2, hf, rfl, ?zc, ?zr⟩
    case zc => rw [take_snoc hr]; exact CompsL.snoc (.head _) (.tail _ (.head _)) g1 g2 g3 g4 (hys.mono fun p hp => .tail _ (.tail _ hp))
    case zr => exact List.forall_mem_cons.mpr ⟨Nat.lt_trans e2 l82, List.forall_mem_cons.mpr ⟨e2, hR⟩⟩
    case off =>
      refine List.forall_mem_cons.mpr ⟨Nat.ne_of_lt fI, List.forall_mem_cons.mpr ⟨Ne.symm (Nat.ne_of_lt (Nat.lt_trans e2 l82)), List.forall_mem_cons.mpr ⟨Ne.symm (Nat.ne_of_lt e2), fun p hp => ?_⟩⟩⟩
      rcases List.mem_append.mp hp with hp | hp
      · exact Ne.symm (Nat.ne_of_lt (hR p hp))
      · exact Nat.ne_of_lt (lI p (.tail _ hp))
  case done =>
    intro h1 tk1 mm nw hJ F1 N1
    obtain ⟨i, R, ys, k, hr1, hf, hnw, hys, hR⟩ := hJ
    subst hnw
    have hi : rows.length ≤ i := by rw [← hL.len]; exact drop_nil hr1
    rw [List.take_of_length_le hi] at hys
    clear hR hr1
    repeat' (first | ((with_reducible show wpAny _ _ (eval (Expr.ListComp _ _ _ _) _) _ _ _); (k_here; k_dflt (refine LCg.ListComp_U (F₀ := by k_asm) (by rfl) (by decide) (by rfl) (by decide) (by rfl) ?_))) | (k_here; (with_reducible show wpAny _ _ (eval (Expr.Name (Str.ofString "found") _) _) _ _ _); refine' ld ?z1 ?z2 ?_; (case z1 => k_asm); (case z2 => exact hf); walk_say "FOUND") | (k_unfold; (try dsimp only)) | (k_end; wrow_close) | walk1 | (dsimp only; walk1) | (leave1; walk_say "STEP leave1"; try dsimp only))
    rename News h₀ L _ _ => N9
    rename Fr h₀ L _ _ => F9
    refine hret _ ((fo, listOf ys.toArray k) :: R) _ _ F9 (fun p hp => N9 p ?m1) (fun p hp => N9 p ?m2) ⟨ys, k, .head _, hys.mono fun p hp => .tail _ hp, l1, l2⟩
    case m1 => exact .tail _ (List.mem_append_right _ (.tail _ (.tail _ (.tail _ hp))))
    case m2 =>
      rcases List.mem_cons.mp hp with e9 | hp
      · rw [e9]; exact .head _
      · exact .tail _ (List.mem_append_left _ hp)
end Mine
end
section
open PySem PySem.W PyProof.Rows
namespace Mine
def PartO (o : Obj) (vs : List Value) : Prop := (∃ n, o = listOf vs.toArray n) ∨ o = { cls := .type "tuple", data := .seq vs.toArray }
theorem part_item {prog : Program} {w : World} {A : Around} {E : Value → Shared → Prop} {s : Shared} {h₀ : Heap} {L : Addr} {value slice : Expr} {pt : Addr} {po : Obj} {vs : List Value} {led : List (Addr × Obj)} {k : Int} {u : Tok} {v : Value} {Q : Value → Shared → Prop}
    (N : News h₀ L s.heap led) (hm : (pt, po) ∈ led) (hp : PartO po vs) (h0 : 0 ≤ k) (h1 : k < 2 ^ 63) (hv : vs[k.toNat]? = some v) (h : Q v s)
    (hs : subscripted slice false (.ref pt) (.int k u) = operate [.ref pt, .int k u] (getItem (.ref pt) (.int k u)) := by with_unfolding_all rfl) :
    wpAny (model prog w) A (subscriptTail value slice (.ref pt) (.int k u)) Q E s := by
  have hlen : k.toNat < vs.length := by
    rcases Nat.lt_or_ge k.toNat vs.length with q | q
    · exact q
    · rw [List.getElem?_eq_none q] at hv; cases hv
  rcases hp with ⟨n, rfl⟩ | rfl
  · have hl : s.heap.IsList pt vs.toArray := ⟨_, (N _ hm).1, rfl, n, rfl⟩
    exact tail_any hl.typeIs slot_list_getitem.lookup (wpAny_getItem_list hl h0 h1 (by simpa using hv) h) hs
  · exact item_tupleT (l := vs) ⟨_, (N _ hm).1, rfl, _, rfl⟩ (by omega) h1 (seqIndex_of h0 (by omega)) hv h hs
def JoinB (P : Prop) (h₀ : Heap) (L : Addr) (m : PySem.Str → Option Value) (led : List (Addr × Obj)) (s : Shared) (b : Bool) (s' : Shared) : Prop :=
  ∃ h' tk', (b = true → ¬ P) ∧ (b = false → P) ∧ s' = { s with heap := h', toks := tk' } ∧ Fr h₀ L h' m ∧ News h₀ L h' led
theorem join_test {M : Model} {A : Around} {c : Sem Bool} {Q : Bool → Shared → Prop} {E : Value → Shared → Prop} {s : Shared} {h₀ : Heap} {L : Addr} {m : PySem.Str → Option Value} {led : List (Addr × Obj)} {P : Prop}
    (_F : Fr h₀ L s.heap m) (_N : News h₀ L s.heap led) (h : wpAny M A c (fun b s' => JoinB P h₀ L m led s b s') E s)
    (kt : ∀ h' tk', ¬ P → Fr h₀ L h' m → News h₀ L h' led → Q true { s with heap := h', toks := tk' }) (kf : ∀ h' tk', P → Fr h₀ L h' m → News h₀ L h' led → Q false { s with heap := h', toks := tk' }) : wpAny M A c Q E s := by
  refine wpAny_mono h (fun b s' hj => ?_) fun _ _ e => e
  obtain ⟨h', tk', a, b', rfl, F, N⟩ := hj
  cases b with
  | true => exact kt h' tk' (a rfl) F N
  | false => exact kf h' tk' (b' rfl) F N
section
variable {s s' : Shared} {h₀ h' : Heap} {L : Addr} {m : PySem.Str → Option Value} {led : List (Addr × Obj)} {P : Prop} {tk : Nat}
theorem join_t (hs : s' = { s with heap := h', toks := tk }) (hP : ¬ P) (F : Fr h₀ L h' m) (N : News h₀ L h' led) : JoinB P h₀ L m led s true s' := ⟨h', tk, fun _ => hP, (fun e => by cases e), hs, F, N⟩
theorem join_f (hs : s' = { s with heap := h', toks := tk }) (hP : P) (F : Fr h₀ L h' m) (N : News h₀ L h' led) : JoinB P h₀ L m led s false s' := ⟨h', tk, fun e => (by cases e), fun _ => hP, hs, F, N⟩
end
theorem sub_cons {x : Addr × Obj} {l all : List (Addr × Obj)} (h : x ∈ all) (t : ∀ p ∈ l, p ∈ all) : ∀ p ∈ x :: l, p ∈ all := List.forall_mem_cons.mpr ⟨h, t⟩
theorem news_sub {h₀ h : Heap} {L : Addr} {l l' : List (Addr × Obj)} (N : News h₀ L h l) (s : ∀ p ∈ l', p ∈ l) : News h₀ L h l' := fun p hp => N p (s p hp)
theorem told_g (w : World) {p : Program} {loose : List PySem.Str} {mean : ExcName → Option Value} {mg mb : PySem.Str → Option Value}
    {dp un : Nat} {gd : Option (List Code)} {cn : PySem.Str} {cs : Scope} {a : Addr} {ccd : Value} {cl : List (PySem.Str × Addr)} {A₀ : Around}
    {base h₀ : Heap} {L : Addr} {m : PySem.Str → Option Value} {s : Shared} {Q E : Value → Shared → Prop}
    {f fd lc pt : Addr} {po : Obj} {pr H W n px py pa pd MA MD : Int} {kd : PySem.Str} {t1 t2 t3 t4 t5 t6 t7 t8 t9 t10 t11 z1 z2 z3 z4 : Tok} {full led : List (Addr × Obj)} {rows : List Row}
    (B : Below A₀ base [] h₀) (F : Fr h₀ L s.heap m) (X : (hd.heap_39 w.params).In h₀) (XB : (hd.heap_39 w.params).In base) (TB : Top p loose mean mg mb base)
    (T : Top p loose mean mg mb h₀) (hk : cs.kind = .function) (hdp : dp + 40 < recursionLimit) (hun : un + 80 < cLine)
    (NF : News h₀ L s.heap full)
    (m0 : (f, instObj 143 fd) ∈ full)
    (m1 : (fd, dictOf [⟨PyData.keyHash w.params (Str.ofString "kind"), .str (Str.ofString "kind") t1, .str kd t2⟩, ⟨PyData.keyHash w.params (Str.ofString "precision"), .str (Str.ofString "precision") t3, .int pr t4⟩, ⟨PyData.keyHash w.params (Str.ofString "height"), .str (Str.ofString "height") t5, .int H t6⟩, ⟨PyData.keyHash w.params (Str.ofString "width"), .str (Str.ofString "width") t7, .int W t8⟩, ⟨PyData.keyHash w.params (Str.ofString "components"), .str (Str.ofString "components") t9, .ref lc⟩, ⟨PyData.keyHash w.params (Str.ofString "n"), .str (Str.ofString "n") t10, .int n t11⟩] 6) ∈ full)
    (hC : CompsIn w lc led rows) (hS : ∀ p ∈ led, p ∈ full) (hMA : IsMax (rows.map rA) MA) (hMD : IsMax (rows.map rB) MD)
    (m5 : (pt, po) ∈ full) (hpo : PartO po [.int px z1, .int py z2, .int pa z3, .int pd z4])
    (hW1 : 1 ≤ W) (hW2 : W ≤ 48) (hH1 : 1 ≤ H) (hH2 : H ≤ 48) (hn1 : 1 ≤ n) (hn2 : n ≤ 8) (hpx1 : -1 ≤ px) (hpx2 : px ≤ 4) (hpy1 : -1 ≤ py) (hpy2 : py ≤ 4) (hpa1 : 0 ≤ pa) (hpa2 : pa ≤ 9) (hpd1 : 0 ≤ pd) (hpd2 : pd ≤ 9)
    (hret0 : ¬ PartOk W H n MA MD px py pa pd → ∀ (D : Addr) (h' : Heap) (tk' : Nat), Fr h₀ L h' m → News h₀ L h' ((D, tupN #[]) :: full) → Q (.ref D) { s with heap := h', toks := tk' })
    (hret1 : PartOk W H n MA MD px py pa pd → ∀ (HH WW : Int) (D rl : Addr) (R : List (Addr × Obj)) (v1 v2 v3 v4 v5 : Tok) (h' : Heap) (tk' : Nat), HH = min (pd * (MD * n)) (H - py * (MD * n)) → WW = min (pa * (MA * n)) (W - px * (MA * n)) → Fr h₀ L h' m →
      News h₀ L h' ((D, tupN #[.str kd v1, .int pr v2, .int HH v3, .int WW v4, .int n v5, .ref rl]) :: full) → News h₀ L h' R → RowsIn rl R rows → Q (.ref D) { s with heap := h', toks := tk' }) :
    wpAny (model PySem.Challenge.rw_xm0812_01.row.prog w) (ktrTop dp un gd cn cs L a ccd cl []) (call (.ref 201) [.ref f, .ref pt]) Q E s := by
  replace hC := CompsIn.mono hS hC
  clear hS
  revert X; k_fill; intro X
  have N : News h₀ L s.heap ((f, instObj 143 fd) :: (fd, dictOf [⟨PyData.keyHash w.params (Str.ofString "kind"), .str (Str.ofString "kind") t1, .str kd t2⟩, ⟨PyData.keyHash w.params (Str.ofString "precision"), .str (Str.ofString "precision") t3, .int pr t4⟩, ⟨PyData.keyHash w.params (Str.ofString "height"), .str (Str.ofString "height") t5, .int H t6⟩, ⟨PyData.keyHash w.params (Str.ofString "width"), .str (Str.ofString "width") t7, .int W t8⟩, ⟨PyData.keyHash w.params (Str.ofString "components"), .str (Str.ofString "components") t9, .ref lc⟩, ⟨PyData.keyHash w.params (Str.ofString "n"), .str (Str.ofString "n") t10, .int n t11⟩] 6) :: (pt, po) :: full) := news_cons NF m0 (news_cons NF m1 (news_cons NF m5 NF))
  have hM1 := maxA_in hC hMA
  have hM2 := maxB_in hC hMD
  have hU := prod_in hn1 hn2 hM1.1 hM1.2
  have hV := prod_in hn1 hn2 hM2.1 hM2.2
  have hU' := prod_in hM1.1 hM1.2 hn1 hn2
  have hV' := prod_in hM2.1 hM2.2 hn1 hn2
  refine wpAny_call ?_
  k_dflt (refine' try_enter ?k1 ?k2 ?k3 ?k4 ?kN ?k5 ?kA ?kF ?kK ?k6 ?k7 ?k8 ?k9 ?kB ?_ ?c2 ?c3 ?c4 ?c5; (case kA => exact rfl); (case kF => exact rfl); (case kK => assumption); (case k1 => k_asm); (case k2 => k_asm); (case k3 => k_asm); (case k4 => exact N); (case kN => exact NF); (case k5 => k_asm); (case k6 => k_is); (case k7 => k_is); (case k8 => ktr_room); (case k9 => exact BindsTo.of_eq rfl); (case c5 => decide); (case kB => exact locs rfl); (case c2 => exact rfl); (case c3 => exact rfl); (case c4 => exact rfl); k_whole; intro g' L' h' F' N' B' X' T' D'; (try dsimp only); (try k_fold))
  clear NF m0 m1 m5 N
  repeat' (first | ((with_reducible show wpAny _ _ (eval (Expr.ListComp _ _ _ _) _) _ _ _); (k_here; k_dflt (refine LCg.ListComp_U (F₀ := by k_asm) (by rfl) (by decide) (by rfl) (by decide) (by rfl) ?_))) | (k_here; (with_reducible show wpAny _ _ (PySem.call (Value.ref 100) _ _) _ _ _); refine' ma_c _ ?zB ?zF ?zX ?zT ?zk ?zd ?zu ?zN ?m0 ?m1 ?zC ?zS ?zM ?_; (case zB => k_asm); (case zF => k_asm); (case zX => k_asm); (case zN => k_asm); (case zT => k_asm); (case zk => exact rfl); (case zd => ktr_room); (case zu => ktr_units); (case m0 => k_mem); (case m1 => k_mem); (case zC => assumption); (case zS => (intro p9 hp9; (try simp only [List.mem_append] at hp9); simp only [List.mem_cons, List.mem_append, hp9, or_true, true_or])); (case zM => assumption); intro t8 h8 tk8 F8 N8; (try k_sweep); walk_say "ma_c") | (k_here; (with_reducible show wpAny _ _ (PySem.call (Value.ref 105) _ _) _ _ _); refine' md_c _ ?zB ?zF ?zX ?zT ?zk ?zd ?zu ?zN ?m0 ?m1 ?zC ?zS ?zM ?_; (case zB => k_asm); (case zF => k_asm); (case zX => k_asm); (case zN => k_asm); (case zT => k_asm); (case zk => exact rfl); (case zd => ktr_room); (case zu => ktr_units); (case m0 => k_mem); (case m1 => k_mem); (case zC => assumption); (case zS => (intro p9 hp9; (try simp only [List.mem_append] at hp9); simp only [List.mem_cons, List.mem_append, hp9, or_true, true_or])); (case zM => assumption); intro t8 h8 tk8 F8 N8; (try k_sweep); walk_say "md_c") | (k_here; (with_reducible show wpAny _ _ (PySem.call (Value.ref 194) _ _) _ _ _); refine' rows_c _ ?zB ?zF ?zX ?zT ?zk ?zd ?zu ?zN ?m0 ?m1 ?zC ?zS ?_; (case zB => k_asm); (case zF => k_asm); (case zX => k_asm); (case zN => k_asm); (case zT => k_asm); (case zk => exact rfl); (case zd => ktr_room); (case zu => ktr_units); (case m0 => k_mem); (case m1 => k_mem); (case zC => assumption); (case zS => (intro p9 hp9; (try simp only [List.mem_append] at hp9); simp only [List.mem_cons, List.mem_append, hp9, or_true, true_or])); intro rl9 R9 h8 tk8 F8 N8 NR8 hR9 hI9; (replace N8 := news_app N8 NR8); (try simp only [List.cons_append] at N8); clear NR8; (try k_sweep); walk_say "rows_c") | (k_here; (with_reducible show wpAny _ _ (PySem.call (Value.ref 161) _ _) _ _ _); refine' copy_c _ ?zB ?zF ?zX ?zT ?zk ?zd ?zu ?zN ?m0 ?m1 ?zC ?zS ?_; (case zB => k_asm); (case zF => k_asm); (case zX => k_asm); (case zN => k_asm); (case zT => k_asm); (case zk => exact rfl); (case zd => ktr_room); (case zu => ktr_units); (case m0 => k_mem); (case m1 => k_mem); (case zC => assumption); (case zS => (intro p9 hp9; (try simp only [List.mem_append] at hp9); simp only [List.mem_cons, List.mem_append, hp9, or_true, true_or])); intro lc8 R8 h8 tk8 F8 N8 NR8 hC8; (replace N8 := news_app N8 NR8); (try simp only [List.cons_append] at N8); clear NR8; (try k_sweep); walk_say "copy_c") | (k_here; (with_reducible show wpAny _ _ (PySem.call (Value.ref 143) _ _) _ _ _); refine' mk_frame _ ?zB ?zF ?zX ?zT ?zk ?zd ?zu ?zN  ?_; (case zB => k_asm); (case zF => k_asm); (case zX => k_asm); (case zN => k_asm); (case zT => k_asm); (case zk => exact rfl); (case zd => ktr_room); (case zu => ktr_units); skip; intro x8 d8 u81 u82 u83 u84 u85 u86 h8 tk8 F8 N8 l81 l82; clear l81 l82; (try k_sweep); walk_say "mk_frame") | (k_here; (with_reducible show wpAny _ _ (PySem.call (Value.ref 51) _ _) _ _ _); refine' fe_made _ ?zB ?zF ?zX ?zN ?zT ?zk ?zd ?zu ?_; (case zB => k_asm); (case zF => k_asm); (case zX => k_asm); (case zN => k_asm); (case zT => k_asm); (case zk => exact rfl); (case zd => ktr_room); (case zu => ktr_units); intro e8 tp8 d8 h8 tk8 F8 N8 ne8; walk_say "MADE") | (k_here; (with_reducible show wpAny _ _ (exec (Stmt.Raise _ _ _) _) _ _ _); refine' fe_raise ?zh ?_; (case zh => exact rfl); walk_say "RAISE") | (k_here; (with_reducible show Exists _); refine' fe_raisable ?zF ?zX ?zN ?_; (case zN => k_asm); (case zF => k_asm); (case zX => k_asm); (try dsimp only); walk_say "RAISABLE") | (k_here; (with_reducible show wpAny _ _ (leaving _ (Value.ref _)) _ _ _); refine' fe_leave ?zK ?zF ?zN ?zn ?_; (case zF => assumption); (case zK => assumption); (case zN => k_asm); (case zn => assumption); intro h8 R' U'; (try dsimp only at R' U' ⊢); walk_say "LEFT") | (k_here; (with_reducible show wpAny _ _ (noteFrame (Value.ref _) _) _ _ _); refine' fe_caught ?zR ?zF ?zK ?zU ?zXB ?zTB ?zD ?ze ?_; (case zR => assumption); (case zF => assumption); (case zK => assumption); (case zU => assumption); (case zXB => assumption); (case zTB => assumption); (case zD => assumption); (case ze => k_is); intro h8 g8 T8 F8 N8 B8 X8 P8 D8; walk_say "CAUGHT") | (k_here; (with_reducible show wpAny _ _ (subscriptTail _ _ (Value.ref _) (Value.int _ _)) _ _ _); refine' part_item ?zN ?zm hpo ?z0 ?z1 ?zv ?_; (case zN => k_asm); (case zm => k_mem); (case z0 => decide); (case z1 => decide); (case zv => exact rfl); walk_say "PART") | (k_here; (with_reducible show wpAny _ _ (isTrue (Expr.UnaryOp _ _ _) _ _) _ _ _); (fail_if_success (with_reducible show wpAny _ _ _ (fun _ _ => JoinB _ _ _ _ _ _ _ _) _ _)); refine' join_test (P := PartOk W H n MA MD px py pa pd) ?zF ?zN ?_ ?_ ?_; (case zF => k_asm); (case zN => k_asm); rotate_left; (intro h8 tk8 hP8 F8 N8; (try k_sweep)); rotate_left; (intro h8 tk8 hP8 F8 N8; (try k_sweep)); rotate_left; walk_say "TEST") | ((with_reducible show JoinB _ _ _ _ _ _ _ _); first | (refine' join_t rfl ?zP ?zF ?zN; (case zF => k_asm); (case zN => k_asm); (case zP => (unfold PartOk; omega))) | (refine' join_f rfl ?zP ?zF ?zN; (case zF => k_asm); (case zN => k_asm); (case zP => (unfold PartOk; omega)))) | (k_unfold; (try dsimp only)) | (k_end; wrow_close) | walk1 | (dsimp only; walk1) | (leave1; walk_say "STEP leave1"; try dsimp only))
  all_goals (
    rename News h₀ L _ _ => N9
    rename Fr h₀ L _ _ => F9
    first
    | exact hret0 (by assumption) _ _ _ F9 (news_sub N9 (sub_cons (by k_mem) (by (intro p9 hp9; (try simp only [List.mem_append] at hp9); simp only [List.mem_cons, List.mem_append, hp9, or_true, true_or]))))
    | (refine' hret1 ?hp _ _ _ _ _ _ _ _ _ _ _ _ ?e1 ?e2 F9 (news_sub N9 (sub_cons ?n1 ?n2)) ?n3 ?n4
       case hp => assumption
       case n1 => k_mem
       case n2 => (intro p9 hp9; (try simp only [List.mem_append] at hp9); simp only [List.mem_cons, List.mem_append, hp9, or_true, true_or])
       case n4 => assumption
       case n3 => exact news_sub N9 (by (intro p9 hp9; (try simp only [List.mem_append] at hp9); simp only [List.mem_cons, List.mem_append, hp9, or_true, true_or]))
       case e1 => (split <;> omega)
       case e2 => (split <;> omega)))
end Mine
end
section
open PySem PySem.W PyProof.Rows
namespace Mine
theorem mul_eq {prog : Program} {w : World} {A : Around} {E : Value → Shared → Prop} {s : Shared} {a b c : Int} {t u : Tok} {Q : Value → Shared → Prop} (e : b = c) (hm : IntMulOk a c) (h : Q (.int (a * c) s.toks) { s with toks := s.toks + 1 }) :
    wpAny (model prog w) A (binaryOp .Mult (.int a t) (.int b u)) Q E s := by subst e; exact mul_int h hm
theorem due_g (w : World) {p : Program} {loose : List PySem.Str} {mean : ExcName → Option Value} {mg mb : PySem.Str → Option Value}
    {dp un : Nat} {gd : Option (List Code)} {cn : PySem.Str} {cs : Scope} {a : Addr} {ccd : Value} {cl : List (PySem.Str × Addr)} {A₀ : Around}
    {base h₀ : Heap} {L : Addr} {m : PySem.Str → Option Value} {s : Shared} {Q E : Value → Shared → Prop}
    {f fd lc pt : Addr} {po : Obj} {pr H W n px py pa pd MA MD : Int} {kd : PySem.Str} {t1 t2 t3 t4 t5 t6 t7 t8 t9 t10 t11 z1 z2 z3 z4 : Tok} {full led : List (Addr × Obj)} {rows : List Row}
    (B : Below A₀ base [] h₀) (F : Fr h₀ L s.heap m) (X : (hd.heap_39 w.params).In h₀) (XB : (hd.heap_39 w.params).In base) (TB : Top p loose mean mg mb base)
    (T : Top p loose mean mg mb h₀) (hk : cs.kind = .function) (hdp : dp + 40 < recursionLimit) (hun : un + 80 < cLine)
    (NF : News h₀ L s.heap full)
    (m0 : (f, instObj 143 fd) ∈ full)
    (m1 : (fd, dictOf [⟨PyData.keyHash w.params (Str.ofString "kind"), .str (Str.ofString "kind") t1, .str kd t2⟩, ⟨PyData.keyHash w.params (Str.ofString "precision"), .str (Str.ofString "precision") t3, .int pr t4⟩, ⟨PyData.keyHash w.params (Str.ofString "height"), .str (Str.ofString "height") t5, .int H t6⟩, ⟨PyData.keyHash w.params (Str.ofString "width"), .str (Str.ofString "width") t7, .int W t8⟩, ⟨PyData.keyHash w.params (Str.ofString "components"), .str (Str.ofString "components") t9, .ref lc⟩, ⟨PyData.keyHash w.params (Str.ofString "n"), .str (Str.ofString "n") t10, .int n t11⟩] 6) ∈ full)
    (hC : CompsIn w lc led rows) (hS : ∀ p ∈ led, p ∈ full) (hMA : IsMax (rows.map rA) MA) (hMD : IsMax (rows.map rB) MD)
    (m5 : (pt, po) ∈ full) (hpo : PartO po [.int px z1, .int py z2, .int pa z3, .int pd z4])
    (hW1 : 1 ≤ W) (hW2 : W ≤ 48) (hH1 : 1 ≤ H) (hH2 : H ≤ 48) (hn1 : 1 ≤ n) (hn2 : n ≤ 8) (hpx1 : -1 ≤ px) (hpx2 : px ≤ 4) (hpy1 : -1 ≤ py) (hpy2 : py ≤ 4) (hpa1 : 0 ≤ pa) (hpa2 : pa ≤ 9) (hpd1 : 0 ≤ pd) (hpd2 : pd ≤ 9)
    (hret0 : ¬ PartOk W H n MA MD px py pa pd → ∀ (D : Addr) (h' : Heap) (tk' : Nat), Fr h₀ L h' m → News h₀ L h' ((D, tupN #[]) :: full) → Q (.ref D) { s with heap := h', toks := tk' })
    (hret1 : PartOk W H n MA MD px py pa pd → ∀ (HH WW : Int) (D rl : Addr) (R : List (Addr × Obj)) (v1 v2 v3 v4 v5 : Tok) (h' : Heap) (tk' : Nat), HH = min (pd * (MD * n)) (H - py * (MD * n)) → WW = min (pa * (MA * n)) (W - px * (MA * n)) → Fr h₀ L h' m →
      News h₀ L h' ((D, tupN #[.str kd v1, .int pr v2, .int HH v3, .int WW v4, .int n v5, .ref rl]) :: full) → News h₀ L h' R → RowsIn rl R rows → Q (.ref D) { s with heap := h', toks := tk' }) :
    wpAny (model PySem.Challenge.rw_xm0812_01.row.prog w) (ktrTop dp un gd cn cs L a ccd cl []) (call (.ref 211) [.ref f, .ref pt]) Q E s := by
  have hlen : 1 ≤ rows.length ∧ rows.length ≤ 3 := let ⟨_, _, _, _, a, b⟩ := hC; ⟨a, b⟩
  replace hC := CompsIn.mono hS hC
  clear hS
  revert X; k_fill; intro X
  have N : News h₀ L s.heap ((f, instObj 143 fd) :: (fd, dictOf [⟨PyData.keyHash w.params (Str.ofString "kind"), .str (Str.ofString "kind") t1, .str kd t2⟩, ⟨PyData.keyHash w.params (Str.ofString "precision"), .str (Str.ofString "precision") t3, .int pr t4⟩, ⟨PyData.keyHash w.params (Str.ofString "height"), .str (Str.ofString "height") t5, .int H t6⟩, ⟨PyData.keyHash w.params (Str.ofString "width"), .str (Str.ofString "width") t7, .int W t8⟩, ⟨PyData.keyHash w.params (Str.ofString "components"), .str (Str.ofString "components") t9, .ref lc⟩, ⟨PyData.keyHash w.params (Str.ofString "n"), .str (Str.ofString "n") t10, .int n t11⟩] 6) :: (pt, po) :: full) := news_cons NF m0 (news_cons NF m1 (news_cons NF m5 NF))
  have hM1 := maxA_in hC hMA
  have hM2 := maxB_in hC hMD
  have hU := prod_in hn1 hn2 hM1.1 hM1.2
  have hV := prod_in hn1 hn2 hM2.1 hM2.2
  have hU' := prod_in hM1.1 hM1.2 hn1 hn2
  have hV' := prod_in hM2.1 hM2.2 hn1 hn2
  refine wpAny_call ?_
  k_dflt (refine' try_enter ?k1 ?k2 ?k3 ?k4 ?kN ?k5 ?kA ?kF ?kK ?k6 ?k7 ?k8 ?k9 ?kB ?_ ?c2 ?c3 ?c4 ?c5; (case kA => exact rfl); (case kF => exact rfl); (case kK => assumption); (case k1 => k_asm); (case k2 => k_asm); (case k3 => k_asm); (case k4 => exact N); (case kN => exact NF); (case k5 => k_asm); (case k6 => k_is); (case k7 => k_is); (case k8 => ktr_room); (case k9 => exact BindsTo.of_eq rfl); (case c5 => decide); (case kB => exact locs rfl); (case c2 => exact rfl); (case c3 => exact rfl); (case c4 => exact rfl); k_whole; intro g' L' h' F' N' B' X' T' D'; (try dsimp only); (try k_fold))
  clear NF m0 m1 m5 N
  clear hU' hV'
  repeat' (first | ((with_reducible show wpAny _ _ (eval (Expr.ListComp _ _ _ _) _) _ _ _); (k_here; k_dflt (refine LCg.ListComp_U (F₀ := by k_asm) (by rfl) (by decide) (by rfl) (by decide) (by rfl) ?_))) | (k_here; (with_reducible show wpAny _ _ (PySem.call (Value.ref 194) _ _) _ _ _); refine' rows_c _ ?zB ?zF ?zX ?zT ?zk ?zd ?zu ?zN ?m0 ?m1 ?zC ?zS ?_; (case zB => k_asm); (case zF => k_asm); (case zX => k_asm); (case zN => k_asm); (case zT => k_asm); (case zk => exact rfl); (case zd => ktr_room); (case zu => ktr_units); (case m0 => k_mem); (case m1 => k_mem); (case zC => assumption); (case zS => (intro p9 hp9; (try simp only [List.mem_append] at hp9); simp only [List.mem_cons, List.mem_append, hp9, or_true, true_or])); intro rl9 R9 h8 tk8 F8 N8 NR8 hR9 hI9; (replace N8 := news_app N8 NR8); (try simp only [List.cons_append] at N8); clear NR8; have hR8 := hR9; obtain ⟨vs9, kR9, lR9⟩ := hR8; (replace N8 := news_cons N8 (p := (rl9, LCg.lst vs9)) (by simp only [List.mem_cons, List.mem_append, kR9, or_true, true_or]) N8); (try k_sweep); walk_say "rows_c") | ((with_reducible show LCg.CompSrc _ _ _ _ _ _ _ _ _ _ _ _ _ _); refine' LCg.CompSrc.ledger ?z1 ?z2 ?z3 ?z4 ?z5 ?_; (case z1 => rfl); (case z2 => k_asm); (case z3 => k_asm); (case z4 => k_mem); (case z5 => (simp only [List.size_toArray]; rw [lR9.len]; exact Nat.le_trans hlen.2 (by rw [sizeLine_eq]; decide))); intro g9; walk_say "SRC") | ((with_reducible show LCg.CompRest _ _ _ _ _ _ _ (Expr.Subscript _ (Expr.Constant (Const.int 1) _ _) _) _ _ _ _ _ _ _ _ _ _ _); refine' comp_const (fun i ys => IntsAre ys ((rows.take i).map rA)) ?_ ?_ .nil; (focus (intro i v ys I oI C oC D m₂ h1 tk1 E1 hi hP hK hC1 hx1 F1 N1 off1 ne1; obtain ⟨r, i1, a1, b1, q1, y1, y2, y3, y4, hv, hr, c1⟩ := lR9.get (n := i) (v := v) (by simpa using hP); subst hv; have N2 := news_cons N1 (p := (r, ({ cls := .type "tuple", data := .seq #[.int i1 y1, .int a1 y2, .int b1 y3, .int q1 y4] } : Obj))) (by simp only [List.mem_cons, List.mem_append, c1, or_true, true_or]) N1; clear N1; k_steps; refine comp_end rfl (by k_asm) (by k_asm) (by k_mem) (by k_mem) (by k_mem) ?zs off1 (by k_dflt lcg_src) ⟨rfl, ?zi⟩; (case zs => (intro p9 hp9; (try simp only [List.mem_append] at hp9); simp only [List.mem_cons, List.mem_append, hp9, or_true, true_or])); (case zi => (rw [take_snoc hr, List.map_append]; exact ints_snoc hK)))); intro ys hK; (rw [List.size_toArray, lR9.len, List.take_length] at hK); unfold LCg.FinE; intro D8 h8 tk8 F8 N8 o8; clear o8; (try dsimp only); (try k_sweep); walk_say "REST") | ((with_reducible show LCg.CompRest _ _ _ _ _ _ _ (Expr.Subscript _ (Expr.Constant (Const.int 2) _ _) _) _ _ _ _ _ _ _ _ _ _ _); refine' comp_const (fun i ys => IntsAre ys ((rows.take i).map rB)) ?_ ?_ .nil; (focus (intro i v ys I oI C oC D m₂ h1 tk1 E1 hi hP hK hC1 hx1 F1 N1 off1 ne1; obtain ⟨r, i1, a1, b1, q1, y1, y2, y3, y4, hv, hr, c1⟩ := lR9.get (n := i) (v := v) (by simpa using hP); subst hv; have N2 := news_cons N1 (p := (r, ({ cls := .type "tuple", data := .seq #[.int i1 y1, .int a1 y2, .int b1 y3, .int q1 y4] } : Obj))) (by simp only [List.mem_cons, List.mem_append, c1, or_true, true_or]) N1; clear N1; k_steps; refine comp_end rfl (by k_asm) (by k_asm) (by k_mem) (by k_mem) (by k_mem) ?zs off1 (by k_dflt lcg_src) ⟨rfl, ?zi⟩; (case zs => (intro p9 hp9; (try simp only [List.mem_append] at hp9); simp only [List.mem_cons, List.mem_append, hp9, or_true, true_or])); (case zi => (rw [take_snoc hr, List.map_append]; exact ints_snoc hK)))); intro ys hK; (rw [List.size_toArray, lR9.len, List.take_length] at hK); unfold LCg.FinE; intro D8 h8 tk8 F8 N8 o8; clear o8; (try dsimp only); (try k_sweep); walk_say "REST") | ((with_reducible show wpAny _ _ (binaryOp Operator.Mult (Value.int _ _) (Value.int _ _)) _ _ _); first | (refine' mul_eq (IsMax.eq (show IsMax (rows.map rA) _ from ⟨by assumption, by assumption⟩) hMA) ?zm ?_; (case zm => mul_fits)) | (refine' mul_eq (IsMax.eq (show IsMax (rows.map rB) _ from ⟨by assumption, by assumption⟩) hMD) ?zm ?_; (case zm => mul_fits)); walk_say "UNIT") | (k_here; (with_reducible show wpAny _ _ (PySem.call (Value.ref 206) _ _) _ _ _); refine' count_c _ ?zB ?zF ?zX ?zT ?zk ?zd ?zu ?zN ?b1 ?b2 ?b3 ?b4 ?b5 ?b6 ?b7 ?b8 ?_; (case zB => k_asm); (case zF => k_asm); (case zX => k_asm); (case zN => k_asm); (case zT => k_asm); (case zk => exact rfl); (case zd => ktr_room); (case zu => ktr_units); (case b1 => omega); (case b2 => omega); (case b3 => omega); (case b4 => omega); (case b5 => omega); (case b6 => omega); (case b7 => omega); (case b8 => omega); intro t8 v8 h8 tk8 e8 F8 N8; (try k_sweep); walk_say "count_c") | (k_here; (with_reducible show wpAny _ _ (subscriptTail _ _ (Value.ref _) (Value.int _ _)) _ _ _); refine' part_item ?zN ?zm hpo ?z0 ?z1 ?zv ?_; (case zN => k_asm); (case zm => k_mem); (case z0 => decide); (case z1 => decide); (case zv => exact rfl); walk_say "PART") | (k_unfold; (try dsimp only)) | (k_end; wrow_close) | walk1 | (dsimp only; walk1) | (leave1; walk_say "STEP leave1"; try dsimp only))
  all_goals (
    rename News h₀ L _ _ => N9
    rename Fr h₀ L _ _ => F9
    rename CntSays W _ _ _ _ => cw
    rename CntSays H _ _ _ _ => ch
    have pw := part_law hU.1 hW1 hpa1 cw
    have ph := part_law hV.1 hH1 hpd1 ch
    first
    | exact hret0 (fun c => by unfold PartOk at c; exact (pw.1.mpr ⟨c.1, c.2.1, c.2.2.2.2.1⟩) (by assumption)) _ _ _ F9 (news_sub N9 (sub_cons (by k_mem) (by (intro p9 hp9; (try simp only [List.mem_append] at hp9); simp only [List.mem_cons, List.mem_append, hp9, or_true, true_or]))))
    | exact hret0 (fun c => by unfold PartOk at c; exact (ph.1.mpr ⟨c.2.2.1, c.2.2.2.1, c.2.2.2.2.2⟩) (by assumption)) _ _ _ F9 (news_sub N9 (sub_cons (by k_mem) (by (intro p9 hp9; (try simp only [List.mem_append] at hp9); simp only [List.mem_cons, List.mem_append, hp9, or_true, true_or]))))
    | (have vw := pw.1.mp (by assumption)
       have vh := ph.1.mp (by assumption)
       refine' hret1 ?hp _ _ _ _ _ _ _ _ _ _ _ _ ?e1 ?e2 F9 (news_sub N9 (sub_cons ?n1 ?n2)) ?n3 ?n4
       case hp => (unfold PartOk; exact ⟨vw.1, vw.2.1, vh.1, vh.2.1, vw.2.2, vh.2.2⟩)
       case n1 => k_mem
       case n2 => (intro p9 hp9; (try simp only [List.mem_append] at hp9); simp only [List.mem_cons, List.mem_append, hp9, or_true, true_or])
       case n4 => assumption
       case n3 => exact news_sub N9 (by (intro p9 hp9; (try simp only [List.mem_append] at hp9); simp only [List.mem_cons, List.mem_append, hp9, or_true, true_or]))
       case e1 => (rw [Int.mul_comm MD n]; exact ph.2 (by assumption))
       case e2 => (rw [Int.mul_comm MA n]; exact pw.2 (by assumption))))
end Mine
end
section
open PySem PySem.W PyProof.Rows
namespace Mine
section
variable {prog : Program} {w : World} {A : Around} {E : Value → Shared → Prop} {s : Shared} {env : Env} {h₀ : Heap} {x : PySem.Str} {body : List Stmt} {Q : Flow → Shared → Prop}
theorem range_invI {J : Nat → (PySem.Str → Option Value) → List (Addr × Obj) → Prop} {I : Addr} {a : Int} {n : Nat}
    (turn : ∀ (i : Nat) (v : Int) (it : Obj) t h tk m news, i < n → (∃ a b, it = itR a b) → J i m news → Fr h₀ env.locals h (fun y => if y = x then some (.int v t) else m y) → News h₀ env.locals h ((I, it) :: news) →
      wpAny (model prog w) A (execs body env) (UnrPost h₀ env.locals { s with heap := h, toks := tk } I it (J (i + 1)) Q) E { s with heap := h, toks := tk })
    (done : ∀ h tk m news, J n m news → Fr h₀ env.locals h m → News h₀ env.locals h news → Q .next { s with heap := h, toks := tk }) :
    ∀ (k i : Nat) (m : PySem.Str → Option Value) (news : List (Addr × Obj)), i + k = n → J i m news → RangeRest prog w A E h₀ env x body Q s I a n k i m news
  | 0, i, _, _, e, hJ => fun h tk F N => done h tk _ _ ((show i = n by omega) ▸ hJ) F N
  | k + 1, i, _, _, e, hJ => fun t h tk F N => wpAny_mono (turn i _ _ t h tk _ _ (by omega) ⟨_, _, rfl⟩ hJ F N) (fun f s₂ p => unr_mono (fun m' n' hj => range_invI turn done k (i + 1) m' n' (by omega) hj) f s₂ p) fun _ _ e => e
def JComp (w : World) (l lc cell : Addr) (oc : Obj) (np : Nat) (I : Addr) (m₀ : PySem.Str → Option Value) (i : Nat) (m : PySem.Str → Option Value) (news : List (Addr × Obj)) : Prop :=
  ∃ x tx y ty, ∃ u1 u2 u3 : Option Value, ∃ vs nc rows R, 0 ≤ x ∧ 0 ≤ y ∧ y < 2147483647 ∧ m = (fun z => if z = (Str.ofString "down") then u1 else if z = (Str.ofString "across") then u2 else if z = (Str.ofString "ident") then u3 else m₀ z) ∧ news = (lc, listOf vs.toArray nc) :: (l, poolObj x tx y ty np) :: (cell, oc) :: R ∧ CompsL w R vs rows ∧ rows.length = i ∧ (∀ p ∈ R, Inert p.2) ∧ ∀ p ∈ R, @LT.lt Nat _ I p.1
theorem comps_iter {r l lc cell : Addr} {oc : Obj} {np k0 : Nat} {c xp yp : Int} {tx ty : Tok} {t1 t2 t3 : Tok} {led : List (Addr × Obj)} {m₀ : PySem.Str → Option Value}
    (hh : A.handled = none) (hr : IsRange s.heap r 0 c 1 t1 t2 t3) (F : Fr h₀ env.locals s.heap m₀) (N : News h₀ env.locals s.heap led) (_X : (hd.heap_39 w.params).In h₀)
    (_hd : oc.data = Data.cell (some (Value.ref l))) (hc : (cell, oc) ∈ led) (hl : (l, poolObj xp tx yp ty np) ∈ led) (hlc : (lc, listOf #[] k0) ∈ led) (h1 : 1 ≤ c) (h3 : c ≤ 3) (hx : 0 ≤ xp) (hy : 0 ≤ yp) (hz : yp < 2147483647)
    (turn : ∀ (I : Addr) (i : Nat) (v : Int) (it : Obj) t h tk m news, @LT.lt Nat _ lc I → @LT.lt Nat _ l I → @LT.lt Nat _ cell I → i < 3 → (∃ a b, it = itR a b) → JComp w l lc cell oc np I m₀ i m news → Fr h₀ env.locals h (fun y => if y = x then some (.int v t) else m y) → News h₀ env.locals h ((I, it) :: news) →
      wpAny (model prog w) A (execs body env) (UnrPost h₀ env.locals { s with heap := h, toks := tk } I it (JComp w l lc cell oc np I m₀ (i + 1)) Q) E { s with heap := h, toks := tk })
    (done : ∀ (h' : Heap) (tk' : Nat) (u1 u2 u3 : Option Value) (x : Int) (tx : Tok) (y : Int) (ty : Tok) (rows : List Row) (rest : List (Addr × Obj)), 0 ≤ x → 0 ≤ y → y < 2147483647 → (∀ p ∈ rest, Inert p.2) → (∀ p ∈ rest, p.1 ≠ l) → CompsIn w lc rest rows →
      Fr h₀ env.locals h' (fun z => if z = (Str.ofString "down") then u1 else if z = (Str.ofString "across") then u2 else if z = (Str.ofString "ident") then u3 else m₀ z) → News h₀ env.locals h' ((l, poolObj x tx y ty np) :: (cell, oc) :: rest) → Q .next { s with heap := h', toks := tk' }) :
    wpAny (model prog w) A (pyIter (.ref r)) (fun it s₂ => LoopAtV prog w A h₀ env x body Q E it s₂) E s := by
  have N' : News h₀ env.locals s.heap [(lc, listOf #[] k0), (l, poolObj xp tx yp ty np), (cell, oc)] := news_cons N hlc (news_cons N hl (news_cons N hc (fun _ hp => nomatch hp)))
  have hn : Builtin.Range.rangeSize 0 c 1 = ((c.toNat : Nat) : Int) := by rw [rangeSize_one]; omega
  refine iter_rangeUnr (n := c.toNat) hh hr (small_one (by omega) (by omega) (by omega) (by omega)) hn F N' fun I lI => ?_
  obtain ⟨u1, u2, u3, e⟩ := map3 (a := (Str.ofString "down")) (b := (Str.ofString "across")) (c := (Str.ofString "ident")) (m₀ := m₀) (mm := m₀) (fun _ _ _ _ => rfl)
  refine range_invI (J := JComp w l lc cell oc np I m₀) (fun i v it t h tk m news hi hit hJ F₁ N₁ => turn I i v it t h tk m news (lI _ (.head _)) (lI _ (.tail _ (.head _))) (lI _ (.tail _ (.tail _ (.head _)))) (by omega) hit hJ F₁ N₁) (fun h tk m news hJ F₁ N₁ => ?_) _ 0 m₀ _ (Nat.zero_add _)
    ⟨xp, tx, yp, ty, u1, u2, u3, [], k0, [], [], hx, hy, hz, e, rfl, .nil, rfl, (fun _ h => nomatch h), (fun _ h => nomatch h)⟩
  obtain ⟨x', tx', y', ty', v1, v2, v3, vs, nc, rows, R, a1, a2, a3, rfl, rfl, hC, hlen, hin, hRI⟩ := hJ
  have hI : Inert (listOf vs.toArray nc) := by
    cases hC with
    | nil => simp at hlen; omega
    | cons k1 k2 g1 g2 g3 g4 t => exact inert_list
  have hin' : ∀ p ∈ (lc, listOf vs.toArray nc) :: R, Inert p.2 := List.forall_mem_cons.mpr ⟨hI, hin⟩
  have sub : ∀ p ∈ (lc, listOf vs.toArray nc) :: R, p ∈ (lc, listOf vs.toArray nc) :: (l, poolObj x' tx' y' ty' np) :: (cell, oc) :: R := List.forall_mem_cons.mpr ⟨.head _, fun p hp => .tail _ (.tail _ (.tail _ hp))⟩
  exact done h tk v1 v2 v3 x' tx' y' ty' rows ((lc, listOf vs.toArray nc) :: R) a1 a2 a3 hin' (off_pool N₁ (.tail _ (.head _)) sub hin') ⟨vs, nc, .head _, hC.mono fun p hp => .tail _ hp, by omega, by omega⟩ F₁
    (news_cons N₁ (.tail _ (.head _)) (news_cons N₁ (.tail _ (.tail _ (.head _))) (news_sub N₁ sub)))
theorem jcomp_end {s₁ s₂ : Shared} {h' : Heap} {L l lc cell I c d : Addr} {oc it : Obj} {np nc tk i : Nat} {R all : List (Addr × Obj)} {m₀ mm : PySem.Str → Option Value} {xp yp : Int} {tx ty : Tok} {vs : List Value} {rows : List Row} {ci ca cb cq : Int} {v : Option Value}
    (hs : s₂ = { s₁ with heap := h', toks := tk }) (F : Fr h₀ L h' mm) (hm : ∀ z, z ≠ (Str.ofString "down") → z ≠ (Str.ofString "across") → z ≠ (Str.ofString "ident") → mm z = m₀ z) (N : News h₀ L h' all) (hI : (I, it) ∈ all) (hit : ∃ a b, it = itR a b)
    (k0 : (lc, listOf (vs ++ [Value.ref c]).toArray nc) ∈ all) (k1 : (l, poolObj xp tx yp ty np) ∈ all) (k2 : (cell, oc) ∈ all) (k3 : (c, instObj 77 d) ∈ all) (k4 : (d, (dictOf [⟨PyData.keyHash w.params (Str.ofString "ident"), .str (Str.ofString "ident") t1, .int ci t2⟩, ⟨PyData.keyHash w.params (Str.ofString "across"), .str (Str.ofString "across") t3, .int ca t4⟩, ⟨PyData.keyHash w.params (Str.ofString "down"), .str (Str.ofString "down") t5, .int cb t6⟩, ⟨PyData.keyHash w.params (Str.ofString "quant"), .str (Str.ofString "quant") t7, .int cq t8⟩] 4)) ∈ all) (hsub : ∀ p ∈ R, p ∈ all)
    (hC : CompsL w R vs rows) (hlen : rows.length = i) (hin : ∀ p ∈ R, Inert p.2) (hRI : ∀ p ∈ R, @LT.lt Nat _ I p.1) (hoc : oc.data = Data.cell v) (lc1 : @LT.lt Nat _ I c) (lc2 : @LT.lt Nat _ I d)
    (hx : 0 ≤ xp) (hy : 0 ≤ yp) (hz : yp < 2147483647) (g1 : 1 ≤ ca) (g2 : ca ≤ 4) (g3 : 1 ≤ cb) (g4 : cb ≤ 4) : UnrEnd h₀ L s₁ I it (JComp w l lc cell oc np I m₀ (i + 1)) s₂ := by
  obtain ⟨u1, u2, u3, rfl⟩ := map3 hm
  obtain ⟨ia, ib, rfl⟩ := hit
  subst hs
  have sub : ∀ p ∈ (lc, listOf (vs ++ [Value.ref c]).toArray nc) :: (l, poolObj xp tx yp ty np) :: (cell, oc) :: (c, instObj 77 d) :: (d, (dictOf [⟨PyData.keyHash w.params (Str.ofString "ident"), .str (Str.ofString "ident") t1, .int ci t2⟩, ⟨PyData.keyHash w.params (Str.ofString "across"), .str (Str.ofString "across") t3, .int ca t4⟩, ⟨PyData.keyHash w.params (Str.ofString "down"), .str (Str.ofString "down") t5, .int cb t6⟩, ⟨PyData.keyHash w.params (Str.ofString "quant"), .str (Str.ofString "quant") t7, .int cq t8⟩] 4)) :: R, p ∈ all :=
    List.forall_mem_cons.mpr ⟨k0, List.forall_mem_cons.mpr ⟨k1, List.forall_mem_cons.mpr ⟨k2, List.forall_mem_cons.mpr ⟨k3, List.forall_mem_cons.mpr ⟨k4, hsub⟩⟩⟩⟩⟩
  have ne : ∀ p ∈ (lc, listOf (vs ++ [Value.ref c]).toArray nc) :: (l, poolObj xp tx yp ty np) :: (cell, oc) :: (c, instObj 77 d) :: (d, (dictOf [⟨PyData.keyHash w.params (Str.ofString "ident"), .str (Str.ofString "ident") t1, .int ci t2⟩, ⟨PyData.keyHash w.params (Str.ofString "across"), .str (Str.ofString "across") t3, .int ca t4⟩, ⟨PyData.keyHash w.params (Str.ofString "down"), .str (Str.ofString "down") t5, .int cb t6⟩, ⟨PyData.keyHash w.params (Str.ofString "quant"), .str (Str.ofString "quant") t7, .int cq t8⟩] 4)) :: R, p.2 ≠ itR ia ib := by
    refine List.forall_mem_cons.mpr ⟨fun e => ?_, List.forall_mem_cons.mpr ⟨fun e => ?_, List.forall_mem_cons.mpr ⟨fun e => ?_, List.forall_mem_cons.mpr ⟨fun e => ?_, List.forall_mem_cons.mpr ⟨fun e => ?_, fun p hp e => ?_⟩⟩⟩⟩⟩
    · exact absurd (Value.type.inj (congrArg Obj.cls e)) (by decide)
    · exact absurd (Value.type.inj (congrArg Obj.cls e)) (by decide)
    · have := congrArg Obj.data e; dsimp only at this; rw [hoc] at this; cases this
    · have := congrArg Obj.cls e; cases this
    · exact absurd (Value.type.inj (congrArg Obj.cls e)) (by decide)
    · exact (hin p hp).1 (congrArg Obj.cls e)
  refine UnrEnd.intro F N _ (List.forall_mem_cons.mpr ⟨hI, sub⟩) (fun p hp e => ?_) ⟨xp, tx, yp, ty, u1, u2, u3, vs ++ [Value.ref c], nc, rows ++ [(ci, ca, cb, cq)], (c, instObj 77 d) :: (d, (dictOf [⟨PyData.keyHash w.params (Str.ofString "ident"), .str (Str.ofString "ident") t1, .int ci t2⟩, ⟨PyData.keyHash w.params (Str.ofString "across"), .str (Str.ofString "across") t3, .int ca t4⟩, ⟨PyData.keyHash w.params (Str.ofString "down"), .str (Str.ofString "down") t5, .int cb t6⟩, ⟨PyData.keyHash w.params (Str.ofString "quant"), .str (Str.ofString "quant") t7, .int cq t8⟩] 4)) :: R, hx, hy, hz, rfl, rfl,
    CompsL.snoc (.head _) (.tail _ (.head _)) g1 g2 g3 g4 (hC.mono fun p hp => .tail _ (.tail _ hp)), by rw [List.length_append, hlen]; rfl, List.forall_mem_cons.mpr ⟨inert_cls (by k_cls) (by k_cls), List.forall_mem_cons.mpr ⟨inert_cls (by k_cls) (by k_cls), hin⟩⟩, List.forall_mem_cons.mpr ⟨lc1, List.forall_mem_cons.mpr ⟨lc2, hRI⟩⟩⟩
  have h1 := (N p (sub p hp)).1
  have h2 := (N _ hI).1
  rw [e] at h1
  exact ne p hp (Option.some.inj (h1.symm.trans h2))
end
def JTurn (f fd l cell : Addr) (oc fdo : Obj) (n : Nat) (rest : List (Addr × Obj)) (m₀ : PySem.Str → Option Value) (m : PySem.Str → Option Value) (news : List (Addr × Obj)) : Prop :=
  ∃ x tx y ty, ∃ u1 u2 u3 : Option Value, 0 ≤ x ∧ 0 ≤ y ∧ y < 2147483647 ∧ m = (fun z => if z = (Str.ofString "part") then u1 else if z = (Str.ofString "begin") then u2 else if z = (Str.ofString "turn") then u3 else m₀ z) ∧ news = (f, instObj 143 fd) :: (fd, fdo) :: (l, poolObj x tx y ty n) :: (cell, oc) :: rest
theorem jturn_start {f fd l cell : Addr} {oc fdo : Obj} {n : Nat} {rest : List (Addr × Obj)} {m₀ : PySem.Str → Option Value} {x y : Int} {tx ty : Tok} (hx : 0 ≤ x) (hy : 0 ≤ y) (hz : y < 2147483647) :
    JTurn f fd l cell oc fdo n rest m₀ m₀ ((f, instObj 143 fd) :: (fd, fdo) :: (l, poolObj x tx y ty n) :: (cell, oc) :: rest) := by
  obtain ⟨u1, u2, u3, e⟩ := map3 (a := (Str.ofString "part")) (b := (Str.ofString "begin")) (c := (Str.ofString "turn")) (m₀ := m₀) (mm := m₀) (fun _ _ _ _ => rfl)
  exact ⟨x, tx, y, ty, u1, u2, u3, hx, hy, hz, e, rfl⟩
theorem jturn_end {s₁ s₂ : Shared} {h₀ h' : Heap} {L f fd l cell I : Addr} {oc it : Obj} {es : List DictEntry} {ne n tk : Nat} {rest all : List (Addr × Obj)} {m₀ mm : PySem.Str → Option Value} {x y : Int} {tx ty : Tok} {v : Option Value}
    (hs : s₂ = { s₁ with heap := h', toks := tk }) (F : Fr h₀ L h' mm) (hm : ∀ z, z ≠ (Str.ofString "part") → z ≠ (Str.ofString "begin") → z ≠ (Str.ofString "turn") → mm z = m₀ z) (N : News h₀ L h' all)
    (hI : (I, it) ∈ all) (hit : ∃ a b, it = itR a b) (m0 : (f, instObj 143 fd) ∈ all) (m1 : (fd, dictOf es ne) ∈ all) (m2 : (l, poolObj x tx y ty n) ∈ all) (m3 : (cell, oc) ∈ all) (hsub : ∀ p ∈ rest, p ∈ all) (hin : ∀ p ∈ rest, Inert p.2) (hoc : oc.data = Data.cell v)
    (hx : 0 ≤ x) (hy : 0 ≤ y) (hz : y < 2147483647) : UnrEnd h₀ L s₁ I it (JTurn f fd l cell oc (dictOf es ne) n rest m₀) s₂ := by
  obtain ⟨u1, u2, u3, rfl⟩ := map3 hm
  obtain ⟨ia, ib, rfl⟩ := hit
  subst hs
  have sub : ∀ p ∈ (f, instObj 143 fd) :: (fd, dictOf es ne) :: (l, poolObj x tx y ty n) :: (cell, oc) :: rest, p ∈ all :=
    List.forall_mem_cons.mpr ⟨m0, List.forall_mem_cons.mpr ⟨m1, List.forall_mem_cons.mpr ⟨m2, List.forall_mem_cons.mpr ⟨m3, hsub⟩⟩⟩⟩
  have ne : ∀ p ∈ (f, instObj 143 fd) :: (fd, dictOf es ne) :: (l, poolObj x tx y ty n) :: (cell, oc) :: rest, p.2 ≠ itR ia ib := by
    refine List.forall_mem_cons.mpr ⟨fun e => ?_, List.forall_mem_cons.mpr ⟨fun e => ?_, List.forall_mem_cons.mpr ⟨fun e => ?_, List.forall_mem_cons.mpr ⟨fun e => ?_, fun p hp e => ?_⟩⟩⟩⟩
    · have := congrArg Obj.cls e; cases this
    · exact absurd (Value.type.inj (congrArg Obj.cls e)) (by decide)
    · exact absurd (Value.type.inj (congrArg Obj.cls e)) (by decide)
    · have := congrArg Obj.data e; dsimp only at this; rw [hoc] at this; cases this
    · exact (hin p hp).1 (congrArg Obj.cls e)
  refine UnrEnd.intro F N _ (List.forall_mem_cons.mpr ⟨hI, sub⟩) (fun p hp e => ?_) ⟨x, tx, y, ty, u1, u2, u3, hx, hy, hz, rfl, rfl⟩
  have h1 := (N p (sub p hp)).1
  have h2 := (N _ hI).1
  rw [e] at h1
  exact ne p hp (Option.some.inj (h1.symm.trans h2))
theorem inert_app {a b : List (Addr × Obj)} (ha : ∀ p ∈ a, Inert p.2) (hb : ∀ p ∈ b, Inert p.2) : ∀ p ∈ a ++ b, Inert p.2 := fun p hp => by
  rcases List.mem_append.mp hp with hp | hp
  · exact ha p hp
  · exact hb p hp
theorem off_app {a b : List (Addr × Obj)} {l : Addr} (ha : ∀ p ∈ a, p.1 ≠ l) (hb : ∀ p ∈ b, p.1 ≠ l) : ∀ p ∈ a ++ b, p.1 ≠ l := fun p hp => by
  rcases List.mem_append.mp hp with hp | hp
  · exact ha p hp
  · exact hb p hp
end Mine
end
open PySem PySem.W PyProof.Rows
namespace Mine
theorem b1 {r : Int} (h : 0 ≤ r) : 1 ≤ 1 + r := by omega
theorem b2 {r t : Int} (h : r < t) : 1 + r ≤ t := by omega
theorem b9 {r : Int} (h : r ≤ 3) : r ≤ 9 := by omega
theorem bm1 {r : Int} (h : 0 ≤ r) : -1 ≤ r - 1 := by omega
theorem bm2 {r : Int} (h : r < 6) : r - 1 ≤ 4 := by omega
theorem al_lt {a d : Nat} {o : Obj} {led : List (Addr × Obj)} (x : AllLt d led) (hm : (a, o) ∈ led) : a < d := allLt_mem x _ hm
theorem al_ch {a d x : Nat} {o : Obj} {led : List (Addr × Obj)} (h : d < x) (y : AllLt d led) (hm : (a, o) ∈ led) : a < x := Nat.lt_trans (allLt_mem y _ hm) h
theorem isMax_one {a : Int} : IsMax [a] a := ⟨.head _, fun b hb => by rw [List.mem_singleton.mp hb]; exact Int.le_refl _⟩
theorem ne_told1 {prog : Program} {w : World} {A : Around} {E : Value → Shared → Prop} {s : Shared} {h₀ : Heap} {L D1 rl1 : Addr} {all R1 : List (Addr × Obj)} {rows : List Row} {kd : PySem.Str} {pr HH WW n : Int} {v1 v2 v3 v4 v5 : Tok} {b : Value} {d2 : PyData} {as2 : List Addr} {Q : Value → Shared → Prop}
    (hkd : PyData.strOk kd = true) (N : News h₀ L s.heap all) (m1 : (D1, tupN #[.str kd v1, .int pr v2, .int HH v3, .int WW v4, .int n v5, .ref rl1]) ∈ all)
    (r1 : RowsIn rl1 R1 rows) (s1 : ∀ p ∈ R1, p ∈ all) (t2 : Reads s.heap b d2 as2) (h2 : SeqAt.shaped d2 = true) (he : PyData.eqv (toldD kd pr HH WW n rows) d2 = true) (hu : A.units + 64 < cLine) (h : Q (.bool false) s) :
    wpAny (model prog w) A (compareOp .NotEq (.ref D1) b) Q E s := by
  obtain ⟨as1, q1⟩ := r1.reads fun p hp => (N p (s1 p hp)).1
  have t1 : Reads s.heap (.ref D1) (toldD kd pr HH WW n rows) _ := reads_tuple_at (N _ m1).1 rfl rfl (.cons (.str _ _) (.cons (.int _ _) (.cons (.int _ _) (.cons (.int _ _) (.cons (.int _ _) (.cons q1 .nil))))))
  have hs : SeqAt.shaped (toldD kd pr HH WW n rows) = true := by simp [SeqAt.shaped, hkd, toldD, rowsD, PyData.canLay0, PyData.canLayAll0, PyData.depth, PyData.depthAll]; exact rowsD_shape rows
  refine ne_dataH t1 t2 hs h2 hu ?_
  rw [he]; exact h
end Mine
open Mine
local macro_rules | `(tactic| lcg_src) => `(tactic| k_mem)
local macro_rules | `(tactic| k_lt $h:ident) => `(tactic| replace $h := allLt_of $h)
local macro_rules | `(tactic| k_ne) => `(tactic| (refine neN ?_; (try dsimp only); first | exact off_I (by assumption) (by k_mem) | exact off_C (by assumption) (by k_mem) | exact off_D (by assumption) (by k_mem) | exact off1_D (by assumption) (by k_mem) | exact Nat.ne_of_lt (al_lt (by with_reducible assumption) (by k_mem)) | exact Nat.ne_of_gt (al_lt (by with_reducible assumption) (by k_mem)) | exact Nat.ne_of_lt (by with_reducible assumption) | exact Nat.ne_of_gt (by with_reducible assumption) | exact Nat.ne_of_lt (al_ch (by with_reducible assumption) (by with_reducible assumption) (by k_mem)) | exact Nat.ne_of_gt (al_ch (by with_reducible assumption) (by with_reducible assumption) (by k_mem)) | ((simp only [AllLt, and_true] at *; omega))))
local macro_rules | `(tactic| k_all) => `(tactic| assumption)
theorem PySem.Challenge.cw_xm0812_01_holds : PySem.Challenge.rw_xm0812_01.Holds := by
  refine hd ?_
  w_strict k_go0
  (all_goals try k_fold)
  repeat' (first | (w_end; (show GoodW _ _ _ _ _ (.ok (.ret (.bool _))) _); refine goodW_bool (by assumption) (by assumption) (raisesW_false (by wrow_none_raised)) (postW_of (X := true) (by with_unfolding_all rfl) (by with_unfolding_all rfl) rfl); walk_say "END") | (k_here; (with_reducible show wpAny _ _ (PySem.call (Value.ref 77) _ _) _ _ _); refine' mk_comp _ ?zB ?zF ?zX ?zT ?zk ?zd ?zu ?zN ?_; (case zB => k_asm); (case zF => k_asm); (case zX => k_asm); (case zN => k_asm); (case zT => k_asm); (case zk => exact rfl); (case zd => first | exact Nat.le_of_ble_eq_true rfl | ktr_room); (case zu => first | exact Nat.le_of_ble_eq_true rfl | ktr_units); intro x8 d8 u81 u82 u83 u84 h8 tk8 F8 N8 l81 l82; (try k_lt l81); (try k_lt2 l82); (try k_sweep); walk_say "COMP") | (k_here; (with_reducible show wpAny _ _ (PySem.call (Value.ref 143) _ _) _ _ _); refine' mk_frame _ ?zB ?zF ?zX ?zT ?zk ?zd ?zu ?zN ?_; (case zB => k_asm); (case zF => k_asm); (case zX => k_asm); (case zN => k_asm); (case zT => k_asm); (case zk => exact rfl); (case zd => first | exact Nat.le_of_ble_eq_true rfl | ktr_room); (case zu => first | exact Nat.le_of_ble_eq_true rfl | ktr_units); intro x8 d8 u81 u82 u83 u84 u85 u86 h8 tk8 F8 N8 l81 l82; (try k_lt l81); (try k_lt2 l82); (try k_sweep); walk_say "FRAME") | (k_here; (with_reducible show wpAny _ _ (PySem.call (Value.ref 175) _ _) _ _ _); refine' pool_c _ ?zB ?zF ?zX ?zT ?zk ?zd ?zu ?zN ?zl ?zi ?zn ?_; (case zB => k_asm); (case zF => k_asm); (case zX => k_asm); (case zN => k_asm); (case zT => k_asm); (case zk => exact rfl); (case zd => first | exact Nat.le_of_ble_eq_true rfl | ktr_room); (case zu => first | exact Nat.le_of_ble_eq_true rfl | ktr_units); (case zl => with_reducible assumption); (case zi => with_reducible assumption); (case zn => omega); intro lp x8 tx8 y8 ty8 n8 h8 tk8 hx8 hy8 hz8 l81 F8 N8; (try k_lt l81); (try k_sweep); walk_say "POOL") | (k_here; (with_reducible show wpAny _ _ (PySem.call (Value.ref 182) _ _) _ _ _); refine' take_u _ ?zB ?zF ?zX ?zT ?zk ?zd ?zu ?zN ?zU ?a1 ?a2 ?a3 ?a4 ?a5 ?_; (case zB => k_asm); (case zF => k_asm); (case zX => k_asm); (case zN => k_asm); (case zT => k_asm); (case zk => exact rfl); (case zd => first | exact Nat.le_of_ble_eq_true rfl | ktr_room); (case zu => first | exact Nat.le_of_ble_eq_true rfl | ktr_units); (case zU => (intro _ _ _ _; k_upd)); (case a1 => decide); (case a2 => decide); (case a3 => with_reducible assumption); (case a4 => with_reducible assumption); (case a5 => with_reducible assumption); intro r8 t8 x8 tx8 y8 ty8 h8 tk8 r81 r82 x81 y81 y82 F8 N8; (try k_sweep); walk_say "TAKE") | (k_here; (with_reducible show wpAny _ _ (PySem.call (Value.ref 189) _ _) _ _ _); refine' one_t _ ?zP ?zB ?zF ?zX ?zT ?zk ?zd ?zu ?zN ?zU ?v1 ?v2 ?t1 ?t2 ?a3 ?a4 ?a5 ?_; (case zB => k_asm); (case zF => k_asm); (case zX => k_asm); (case zN => k_asm); (case zT => k_asm); (case zk => exact rfl); (case zd => first | exact Nat.le_of_ble_eq_true rfl | ktr_room); (case zu => first | exact Nat.le_of_ble_eq_true rfl | ktr_units); (case zU => (intro _ _ _ _; k_upd)); (case t1 => k_mem); (case t2 => (intro _ _ _ _; k_mem)); (case v1 => exact Nat.le_of_ble_eq_true rfl); (case v2 => exact Nat.le_of_ble_eq_true rfl); (case a3 => with_reducible assumption); (case a4 => with_reducible assumption); (case a5 => with_reducible assumption); (case zP => (repeat (first | exact List.forall_mem_nil _ | refine List.forall_mem_cons.mpr ⟨⟨_, _, _, _, _, rfl, (fun _ _ _ _ => by k_mem), (by refine ltN ?_; (first | exact al_lt (by with_reducible assumption) (by k_mem) | exact al_ch (by with_reducible assumption) (by with_reducible assumption) (by k_mem) | (simp only [AllLt] at *; omega))), by decide +kernel⟩, ?_⟩))); intro r8 kd8 tk18 pr8 tp8 x8 tx8 y8 ty8 h8 tk8 x81 y81 y82 lr8 sk8 F8 N8; (replace N8 := news_cons N8 (List.Mem.head _) (news_tl (news_tl (news_tl (news_tl (news_tl N8)))))); (try k_sweep); walk_say "PAIR") | (k_here; (with_reducible show wpAny _ _ (PySem.call (Value.ref 189) _ _) _ _ _); (first | (refine' one_i _ (lo := 1) (hi := 8) ?zP ?zB ?zF ?zX ?zT ?zk ?zd ?zu ?zN ?zU ?v1 ?v2 ?t1 ?t2 ?a3 ?a4 ?a5 ?_; (case zB => k_asm); (case zF => k_asm); (case zX => k_asm); (case zN => k_asm); (case zT => k_asm); (case zk => exact rfl); (case zd => first | exact Nat.le_of_ble_eq_true rfl | ktr_room); (case zu => first | exact Nat.le_of_ble_eq_true rfl | ktr_units); (case zU => (intro _ _ _ _; k_upd)); (case t1 => k_mem); (case t2 => (intro _ _ _ _; k_mem)); (case v1 => exact Nat.le_of_ble_eq_true rfl); (case v2 => exact Nat.le_of_ble_eq_true rfl); (case a3 => with_reducible assumption); (case a4 => with_reducible assumption); (case a5 => with_reducible assumption); (case zP => (repeat (first | exact List.forall_mem_nil _ | refine List.forall_mem_cons.mpr ⟨⟨_, _, rfl, (by first | with_reducible assumption | decide | exact b1 (by with_reducible assumption) | exact b2 (by with_reducible assumption) | exact b9 (by with_reducible assumption) | exact bm1 (by with_reducible assumption) | exact bm2 (by with_reducible assumption) | omega), (by first | with_reducible assumption | decide | exact b1 (by with_reducible assumption) | exact b2 (by with_reducible assumption) | exact b9 (by with_reducible assumption) | exact bm1 (by with_reducible assumption) | exact bm2 (by with_reducible assumption) | omega)⟩, ?_⟩)))) | (refine' one_i _ (lo := 0) (hi := 3) ?zP ?zB ?zF ?zX ?zT ?zk ?zd ?zu ?zN ?zU ?v1 ?v2 ?t1 ?t2 ?a3 ?a4 ?a5 ?_; (case zB => k_asm); (case zF => k_asm); (case zX => k_asm); (case zN => k_asm); (case zT => k_asm); (case zk => exact rfl); (case zd => first | exact Nat.le_of_ble_eq_true rfl | ktr_room); (case zu => first | exact Nat.le_of_ble_eq_true rfl | ktr_units); (case zU => (intro _ _ _ _; k_upd)); (case t1 => k_mem); (case t2 => (intro _ _ _ _; k_mem)); (case v1 => exact Nat.le_of_ble_eq_true rfl); (case v2 => exact Nat.le_of_ble_eq_true rfl); (case a3 => with_reducible assumption); (case a4 => with_reducible assumption); (case a5 => with_reducible assumption); (case zP => (repeat (first | exact List.forall_mem_nil _ | refine List.forall_mem_cons.mpr ⟨⟨_, _, rfl, (by first | with_reducible assumption | decide | exact b1 (by with_reducible assumption) | exact b2 (by with_reducible assumption) | exact b9 (by with_reducible assumption) | exact bm1 (by with_reducible assumption) | exact bm2 (by with_reducible assumption) | omega), (by first | with_reducible assumption | decide | exact b1 (by with_reducible assumption) | exact b2 (by with_reducible assumption) | exact b9 (by with_reducible assumption) | exact bm1 (by with_reducible assumption) | exact bm2 (by with_reducible assumption) | omega)⟩, ?_⟩)))) | (refine' one_i _ (lo := -1) (hi := 4) ?zP ?zB ?zF ?zX ?zT ?zk ?zd ?zu ?zN ?zU ?v1 ?v2 ?t1 ?t2 ?a3 ?a4 ?a5 ?_; (case zB => k_asm); (case zF => k_asm); (case zX => k_asm); (case zN => k_asm); (case zT => k_asm); (case zk => exact rfl); (case zd => first | exact Nat.le_of_ble_eq_true rfl | ktr_room); (case zu => first | exact Nat.le_of_ble_eq_true rfl | ktr_units); (case zU => (intro _ _ _ _; k_upd)); (case t1 => k_mem); (case t2 => (intro _ _ _ _; k_mem)); (case v1 => exact Nat.le_of_ble_eq_true rfl); (case v2 => exact Nat.le_of_ble_eq_true rfl); (case a3 => with_reducible assumption); (case a4 => with_reducible assumption); (case a5 => with_reducible assumption); (case zP => (repeat (first | exact List.forall_mem_nil _ | refine List.forall_mem_cons.mpr ⟨⟨_, _, rfl, (by first | with_reducible assumption | decide | exact b1 (by with_reducible assumption) | exact b2 (by with_reducible assumption) | exact b9 (by with_reducible assumption) | exact bm1 (by with_reducible assumption) | exact bm2 (by with_reducible assumption) | omega), (by first | with_reducible assumption | decide | exact b1 (by with_reducible assumption) | exact b2 (by with_reducible assumption) | exact b9 (by with_reducible assumption) | exact bm1 (by with_reducible assumption) | exact bm2 (by with_reducible assumption) | omega)⟩, ?_⟩))))); intro r8 t8 x8 tx8 y8 ty8 h8 tk8 r81 r82 x81 y81 y82 F8 N8; (replace N8 := news_tl N8); (try k_sweep); walk_say "ONE") | (k_here; (with_reducible show wpAny _ _ (PySem.call (Value.ref 194) _ _) _ _ _); refine' rows_c _ ?zB ?zF ?zX ?zT ?zk ?zd ?zu ?zN ?m0 ?m1 ?zC ?zS ?_; (case zB => k_asm); (case zF => k_asm); (case zX => k_asm); (case zN => k_asm); (case zT => k_asm); (case zk => exact rfl); (case zd => first | exact Nat.le_of_ble_eq_true rfl | ktr_room); (case zu => first | exact Nat.le_of_ble_eq_true rfl | ktr_units); (case m0 => k_mem); (case m1 => k_mem); (case zC => with_reducible assumption); (case zS => (intro p9 hp9; (try simp only [List.mem_append] at hp9); simp only [List.mem_cons, List.mem_append, hp9, or_true, true_or])); intro rl8 R8 h8 tk8 F8 N8 NR8 hR8 hI8; (replace N8 := news_app N8 NR8); (try simp only [List.cons_append] at N8); (have hO8 := off_app (by with_reducible assumption) (off_pool (x := _) N8 (by k_mem) (rest := R8) (by (intro p9 hp9; (try simp only [List.mem_append] at hp9); simp only [List.mem_cons, List.mem_append, hp9, or_true, true_or])) hI8)); clear NR8; (try k_sweep); walk_say "ROWS") | (k_here; (with_reducible show wpAny _ _ (PySem.call (Value.ref 201) _ _) _ _ _); refine' told_g _ ?zB ?zF ?zX ?zXB ?zTB ?zT ?zk ?zd ?zu ?zN ?m0 ?m1 ?zC ?zS ?zMA ?zMD ?m5 ?zpo ?b0 ?b1 ?b2 ?b3 ?b4 ?b5 ?b6 ?b7 ?b8 ?b9 ?b10 ?b11 ?b12 ?b13 ?_ ?_; (case zB => k_asm); (case zF => k_asm); (case zX => k_asm); (case zN => k_asm); (case zT => k_asm); (case zk => exact rfl); (case zd => first | exact Nat.le_of_ble_eq_true rfl | ktr_room); (case zu => first | exact Nat.le_of_ble_eq_true rfl | ktr_units); (case zXB => with_reducible assumption); (case zTB => with_reducible assumption); (case m0 => k_mem); (case m1 => k_mem); (case m5 => k_mem); (case zpo => first | exact .inl ⟨_, rfl⟩ | exact .inr rfl); (case zC => with_reducible assumption); (case zS => (intro p9 hp9; (try simp only [List.mem_append] at hp9); simp only [List.mem_cons, List.mem_append, hp9, or_true, true_or])); (case zMA => with_reducible assumption); (case zMD => with_reducible assumption); (case b0 => (first | with_reducible assumption | decide | exact b1 (by with_reducible assumption) | exact b2 (by with_reducible assumption) | exact b9 (by with_reducible assumption) | exact bm1 (by with_reducible assumption) | exact bm2 (by with_reducible assumption) | omega)); (case b1 => (first | with_reducible assumption | decide | exact b1 (by with_reducible assumption) | exact b2 (by with_reducible assumption) | exact b9 (by with_reducible assumption) | exact bm1 (by with_reducible assumption) | exact bm2 (by with_reducible assumption) | omega)); (case b2 => (first | with_reducible assumption | decide | exact b1 (by with_reducible assumption) | exact b2 (by with_reducible assumption) | exact b9 (by with_reducible assumption) | exact bm1 (by with_reducible assumption) | exact bm2 (by with_reducible assumption) | omega)); (case b3 => (first | with_reducible assumption | decide | exact b1 (by with_reducible assumption) | exact b2 (by with_reducible assumption) | exact b9 (by with_reducible assumption) | exact bm1 (by with_reducible assumption) | exact bm2 (by with_reducible assumption) | omega)); (case b4 => (first | with_reducible assumption | decide | exact b1 (by with_reducible assumption) | exact b2 (by with_reducible assumption) | exact b9 (by with_reducible assumption) | exact bm1 (by with_reducible assumption) | exact bm2 (by with_reducible assumption) | omega)); (case b5 => (first | with_reducible assumption | decide | exact b1 (by with_reducible assumption) | exact b2 (by with_reducible assumption) | exact b9 (by with_reducible assumption) | exact bm1 (by with_reducible assumption) | exact bm2 (by with_reducible assumption) | omega)); (case b6 => (first | with_reducible assumption | decide | exact b1 (by with_reducible assumption) | exact b2 (by with_reducible assumption) | exact b9 (by with_reducible assumption) | exact bm1 (by with_reducible assumption) | exact bm2 (by with_reducible assumption) | omega)); (case b7 => (first | with_reducible assumption | decide | exact b1 (by with_reducible assumption) | exact b2 (by with_reducible assumption) | exact b9 (by with_reducible assumption) | exact bm1 (by with_reducible assumption) | exact bm2 (by with_reducible assumption) | omega)); (case b8 => (first | with_reducible assumption | decide | exact b1 (by with_reducible assumption) | exact b2 (by with_reducible assumption) | exact b9 (by with_reducible assumption) | exact bm1 (by with_reducible assumption) | exact bm2 (by with_reducible assumption) | omega)); (case b9 => (first | with_reducible assumption | decide | exact b1 (by with_reducible assumption) | exact b2 (by with_reducible assumption) | exact b9 (by with_reducible assumption) | exact bm1 (by with_reducible assumption) | exact bm2 (by with_reducible assumption) | omega)); (case b10 => (first | with_reducible assumption | decide | exact b1 (by with_reducible assumption) | exact b2 (by with_reducible assumption) | exact b9 (by with_reducible assumption) | exact bm1 (by with_reducible assumption) | exact bm2 (by with_reducible assumption) | omega)); (case b11 => (first | with_reducible assumption | decide | exact b1 (by with_reducible assumption) | exact b2 (by with_reducible assumption) | exact b9 (by with_reducible assumption) | exact bm1 (by with_reducible assumption) | exact bm2 (by with_reducible assumption) | omega)); (case b12 => (first | with_reducible assumption | decide | exact b1 (by with_reducible assumption) | exact b2 (by with_reducible assumption) | exact b9 (by with_reducible assumption) | exact bm1 (by with_reducible assumption) | exact bm2 (by with_reducible assumption) | omega)); (case b13 => (first | with_reducible assumption | decide | exact b1 (by with_reducible assumption) | exact b2 (by with_reducible assumption) | exact b9 (by with_reducible assumption) | exact bm1 (by with_reducible assumption) | exact bm2 (by with_reducible assumption) | omega)); (all_goals (first | ((with_reducible intro hc8 HH8 WW8 D8 rl8 R8 v81 v82 v83 v84 v85 h8 tk8 eH8 eW8 F8 N8 NR8 hR8); (subst eH8 eW8); (replace N8 := news_app N8 NR8); clear NR8; (try simp only [List.cons_append] at N8); (try (with_reducible (exact absurd (by assumption) hc8))); (try (with_reducible (exact absurd (by unfold PartOk; decide +kernel) hc8))); (try (with_reducible (exact absurd hc8 (by assumption)))); (try k_sweep)) | ((with_reducible intro hc8 D8 h8 tk8 F8 N8); (try (with_reducible (exact absurd (by assumption) hc8))); (try (with_reducible (exact absurd (by unfold PartOk; decide +kernel) hc8))); (try (with_reducible (exact absurd hc8 (by assumption)))); (try k_sweep)))); walk_say "told_g") | (k_here; (with_reducible show wpAny _ _ (PySem.call (Value.ref 201) _ _) _ _ _); refine' told_g _ ?zB ?zF ?zX ?zXB ?zTB ?zT ?zk ?zd ?zu ?zN ?m0 ?m1 ?zC ?zS ?zMA ?zMD ?m5 ?zpo ?b0 ?b1 ?b2 ?b3 ?b4 ?b5 ?b6 ?b7 ?b8 ?b9 ?b10 ?b11 ?b12 ?b13 ?_ ?_; (case zB => k_asm); (case zF => k_asm); (case zX => k_asm); (case zN => k_asm); (case zT => k_asm); (case zk => exact rfl); (case zd => first | exact Nat.le_of_ble_eq_true rfl | ktr_room); (case zu => first | exact Nat.le_of_ble_eq_true rfl | ktr_units); (case zXB => with_reducible assumption); (case zTB => with_reducible assumption); (case m0 => k_mem); (case m1 => k_mem); (case m5 => k_mem); (case zpo => first | exact .inl ⟨_, rfl⟩ | exact .inr rfl); (case zS => exact fun _ h => h); (case zC => exact ⟨[_], _, by k_mem, .cons (by k_mem) (by k_mem) (by decide) (by decide) (by decide) (by decide) .nil, by decide, by decide⟩); (case zMA => exact (show IsMax [(2 : Int)] 2 from isMax_one)); (case zMD => exact (show IsMax [(1 : Int)] 1 from isMax_one)); (case b0 => (first | with_reducible assumption | decide | exact b1 (by with_reducible assumption) | exact b2 (by with_reducible assumption) | exact b9 (by with_reducible assumption) | exact bm1 (by with_reducible assumption) | exact bm2 (by with_reducible assumption) | omega)); (case b1 => (first | with_reducible assumption | decide | exact b1 (by with_reducible assumption) | exact b2 (by with_reducible assumption) | exact b9 (by with_reducible assumption) | exact bm1 (by with_reducible assumption) | exact bm2 (by with_reducible assumption) | omega)); (case b2 => (first | with_reducible assumption | decide | exact b1 (by with_reducible assumption) | exact b2 (by with_reducible assumption) | exact b9 (by with_reducible assumption) | exact bm1 (by with_reducible assumption) | exact bm2 (by with_reducible assumption) | omega)); (case b3 => (first | with_reducible assumption | decide | exact b1 (by with_reducible assumption) | exact b2 (by with_reducible assumption) | exact b9 (by with_reducible assumption) | exact bm1 (by with_reducible assumption) | exact bm2 (by with_reducible assumption) | omega)); (case b4 => (first | with_reducible assumption | decide | exact b1 (by with_reducible assumption) | exact b2 (by with_reducible assumption) | exact b9 (by with_reducible assumption) | exact bm1 (by with_reducible assumption) | exact bm2 (by with_reducible assumption) | omega)); (case b5 => (first | with_reducible assumption | decide | exact b1 (by with_reducible assumption) | exact b2 (by with_reducible assumption) | exact b9 (by with_reducible assumption) | exact bm1 (by with_reducible assumption) | exact bm2 (by with_reducible assumption) | omega)); (case b6 => (first | with_reducible assumption | decide | exact b1 (by with_reducible assumption) | exact b2 (by with_reducible assumption) | exact b9 (by with_reducible assumption) | exact bm1 (by with_reducible assumption) | exact bm2 (by with_reducible assumption) | omega)); (case b7 => (first | with_reducible assumption | decide | exact b1 (by with_reducible assumption) | exact b2 (by with_reducible assumption) | exact b9 (by with_reducible assumption) | exact bm1 (by with_reducible assumption) | exact bm2 (by with_reducible assumption) | omega)); (case b8 => (first | with_reducible assumption | decide | exact b1 (by with_reducible assumption) | exact b2 (by with_reducible assumption) | exact b9 (by with_reducible assumption) | exact bm1 (by with_reducible assumption) | exact bm2 (by with_reducible assumption) | omega)); (case b9 => (first | with_reducible assumption | decide | exact b1 (by with_reducible assumption) | exact b2 (by with_reducible assumption) | exact b9 (by with_reducible assumption) | exact bm1 (by with_reducible assumption) | exact bm2 (by with_reducible assumption) | omega)); (case b10 => (first | with_reducible assumption | decide | exact b1 (by with_reducible assumption) | exact b2 (by with_reducible assumption) | exact b9 (by with_reducible assumption) | exact bm1 (by with_reducible assumption) | exact bm2 (by with_reducible assumption) | omega)); (case b11 => (first | with_reducible assumption | decide | exact b1 (by with_reducible assumption) | exact b2 (by with_reducible assumption) | exact b9 (by with_reducible assumption) | exact bm1 (by with_reducible assumption) | exact bm2 (by with_reducible assumption) | omega)); (case b12 => (first | with_reducible assumption | decide | exact b1 (by with_reducible assumption) | exact b2 (by with_reducible assumption) | exact b9 (by with_reducible assumption) | exact bm1 (by with_reducible assumption) | exact bm2 (by with_reducible assumption) | omega)); (case b13 => (first | with_reducible assumption | decide | exact b1 (by with_reducible assumption) | exact b2 (by with_reducible assumption) | exact b9 (by with_reducible assumption) | exact bm1 (by with_reducible assumption) | exact bm2 (by with_reducible assumption) | omega)); (all_goals (first | ((with_reducible intro hc8 HH8 WW8 D8 rl8 R8 v81 v82 v83 v84 v85 h8 tk8 eH8 eW8 F8 N8 NR8 hR8); (subst eH8 eW8); (replace N8 := news_app N8 NR8); clear NR8; (try simp only [List.cons_append] at N8); (try (with_reducible (exact absurd (by assumption) hc8))); (try (with_reducible (exact absurd (by unfold PartOk; decide +kernel) hc8))); (try (with_reducible (exact absurd hc8 (by assumption)))); (try k_sweep)) | ((with_reducible intro hc8 D8 h8 tk8 F8 N8); (try (with_reducible (exact absurd (by assumption) hc8))); (try (with_reducible (exact absurd (by unfold PartOk; decide +kernel) hc8))); (try (with_reducible (exact absurd hc8 (by assumption)))); (try k_sweep)))); walk_say "told_g") | (k_here; (with_reducible show wpAny _ _ (PySem.call (Value.ref 211) _ _) _ _ _); refine' due_g _ ?zB ?zF ?zX ?zXB ?zTB ?zT ?zk ?zd ?zu ?zN ?m0 ?m1 ?zC ?zS ?zMA ?zMD ?m5 ?zpo ?b0 ?b1 ?b2 ?b3 ?b4 ?b5 ?b6 ?b7 ?b8 ?b9 ?b10 ?b11 ?b12 ?b13 ?_ ?_; (case zB => k_asm); (case zF => k_asm); (case zX => k_asm); (case zN => k_asm); (case zT => k_asm); (case zk => exact rfl); (case zd => first | exact Nat.le_of_ble_eq_true rfl | ktr_room); (case zu => first | exact Nat.le_of_ble_eq_true rfl | ktr_units); (case zXB => with_reducible assumption); (case zTB => with_reducible assumption); (case m0 => k_mem); (case m1 => k_mem); (case m5 => k_mem); (case zpo => first | exact .inl ⟨_, rfl⟩ | exact .inr rfl); (case zC => with_reducible assumption); (case zS => (intro p9 hp9; (try simp only [List.mem_append] at hp9); simp only [List.mem_cons, List.mem_append, hp9, or_true, true_or])); (case zMA => with_reducible assumption); (case zMD => with_reducible assumption); (case b0 => (first | with_reducible assumption | decide | exact b1 (by with_reducible assumption) | exact b2 (by with_reducible assumption) | exact b9 (by with_reducible assumption) | exact bm1 (by with_reducible assumption) | exact bm2 (by with_reducible assumption) | omega)); (case b1 => (first | with_reducible assumption | decide | exact b1 (by with_reducible assumption) | exact b2 (by with_reducible assumption) | exact b9 (by with_reducible assumption) | exact bm1 (by with_reducible assumption) | exact bm2 (by with_reducible assumption) | omega)); (case b2 => (first | with_reducible assumption | decide | exact b1 (by with_reducible assumption) | exact b2 (by with_reducible assumption) | exact b9 (by with_reducible assumption) | exact bm1 (by with_reducible assumption) | exact bm2 (by with_reducible assumption) | omega)); (case b3 => (first | with_reducible assumption | decide | exact b1 (by with_reducible assumption) | exact b2 (by with_reducible assumption) | exact b9 (by with_reducible assumption) | exact bm1 (by with_reducible assumption) | exact bm2 (by with_reducible assumption) | omega)); (case b4 => (first | with_reducible assumption | decide | exact b1 (by with_reducible assumption) | exact b2 (by with_reducible assumption) | exact b9 (by with_reducible assumption) | exact bm1 (by with_reducible assumption) | exact bm2 (by with_reducible assumption) | omega)); (case b5 => (first | with_reducible assumption | decide | exact b1 (by with_reducible assumption) | exact b2 (by with_reducible assumption) | exact b9 (by with_reducible assumption) | exact bm1 (by with_reducible assumption) | exact bm2 (by with_reducible assumption) | omega)); (case b6 => (first | with_reducible assumption | decide | exact b1 (by with_reducible assumption) | exact b2 (by with_reducible assumption) | exact b9 (by with_reducible assumption) | exact bm1 (by with_reducible assumption) | exact bm2 (by with_reducible assumption) | omega)); (case b7 => (first | with_reducible assumption | decide | exact b1 (by with_reducible assumption) | exact b2 (by with_reducible assumption) | exact b9 (by with_reducible assumption) | exact bm1 (by with_reducible assumption) | exact bm2 (by with_reducible assumption) | omega)); (case b8 => (first | with_reducible assumption | decide | exact b1 (by with_reducible assumption) | exact b2 (by with_reducible assumption) | exact b9 (by with_reducible assumption) | exact bm1 (by with_reducible assumption) | exact bm2 (by with_reducible assumption) | omega)); (case b9 => (first | with_reducible assumption | decide | exact b1 (by with_reducible assumption) | exact b2 (by with_reducible assumption) | exact b9 (by with_reducible assumption) | exact bm1 (by with_reducible assumption) | exact bm2 (by with_reducible assumption) | omega)); (case b10 => (first | with_reducible assumption | decide | exact b1 (by with_reducible assumption) | exact b2 (by with_reducible assumption) | exact b9 (by with_reducible assumption) | exact bm1 (by with_reducible assumption) | exact bm2 (by with_reducible assumption) | omega)); (case b11 => (first | with_reducible assumption | decide | exact b1 (by with_reducible assumption) | exact b2 (by with_reducible assumption) | exact b9 (by with_reducible assumption) | exact bm1 (by with_reducible assumption) | exact bm2 (by with_reducible assumption) | omega)); (case b12 => (first | with_reducible assumption | decide | exact b1 (by with_reducible assumption) | exact b2 (by with_reducible assumption) | exact b9 (by with_reducible assumption) | exact bm1 (by with_reducible assumption) | exact bm2 (by with_reducible assumption) | omega)); (case b13 => (first | with_reducible assumption | decide | exact b1 (by with_reducible assumption) | exact b2 (by with_reducible assumption) | exact b9 (by with_reducible assumption) | exact bm1 (by with_reducible assumption) | exact bm2 (by with_reducible assumption) | omega)); (all_goals (first | ((with_reducible intro hc8 HH8 WW8 D8 rl8 R8 v81 v82 v83 v84 v85 h8 tk8 eH8 eW8 F8 N8 NR8 hR8); (subst eH8 eW8); (replace N8 := news_app N8 NR8); clear NR8; (try simp only [List.cons_append] at N8); (try (with_reducible (exact absurd (by assumption) hc8))); (try (with_reducible (exact absurd (by unfold PartOk; decide +kernel) hc8))); (try (with_reducible (exact absurd hc8 (by assumption)))); (try k_sweep)) | ((with_reducible intro hc8 D8 h8 tk8 F8 N8); (try (with_reducible (exact absurd (by assumption) hc8))); (try (with_reducible (exact absurd (by unfold PartOk; decide +kernel) hc8))); (try (with_reducible (exact absurd hc8 (by assumption)))); (try k_sweep)))); walk_say "due_g") | (k_here; (with_reducible show wpAny _ _ (exec (Stmt.If (Expr.Compare (Expr.Call (Expr.Name (Str.ofString "_law_told") _) _ _ _) _ (Expr.Tuple _ _ _ :: _) _) _ _ _) _) _ _ _); (fail_if_success (with_reducible show wpAny _ _ _ (fun _ _ => JoinIf _ _ _ _ _ _ _) _ _)); refine' join_if ?zF ?zN ?_ ?_; (case zF => k_asm); (case zN => (rename News _ _ _ _ => N8; repeat (first | exact (show News _ _ _ [_] from N8) | replace N8 := news_tl N8))); rotate_left; (intro h8 tk8 F8 N8; (try k_sweep)); rotate_left; walk_say "JOIN1") | (k_here; (with_reducible show wpAny _ _ (exec (Stmt.If (Expr.Compare (Expr.Call (Expr.Name (Str.ofString "_law_told") _) _ _ _) _ (Expr.Call _ _ _ _ :: _) _) _ _ _) _) _ _ _); (fail_if_success (with_reducible show wpAny _ _ _ (fun _ _ => JoinIf _ _ _ _ _ _ _) _ _)); refine' join_if ?zF ?zN ?_ ?_; (case zF => k_asm); (case zN => k_asm); rotate_left; (intro h8 tk8 F8 N8; (try k_sweep)); rotate_left; walk_say "JOIN") | (k_here; (with_reducible show JoinIf _ _ _ _ _ _ _); refine' join_end ?zs ?zF ?zN ?zl; (case zs => exact rfl); (case zF => k_asm); (case zN => k_asm); (case zl => (intro N8; refine news_sub N8 ?_; (repeat ((with_reducible apply sub_cons); focus (k_dflt k_mem))); (first | exact List.forall_mem_nil _ | (intro p9 hp9; (try simp only [List.mem_append] at hp9); simp only [List.mem_cons, List.mem_append, hp9, or_true, true_or])))); walk_say "JOINED") | (k_here; (with_reducible show wpAny _ _ (PySem.call (Value.type _) [Value.int (_ + _) _]) _ _ _); (rename Fr _ _ _ _ => F8); (rename News _ _ _ _ => N8); (with_unfolding_all refine range1_rows F8 N8 ?_); intro h8 tk8 t81 t82 t83 R8 F8 N8 hk8; clear hk8; (try k_sweep); walk_say "RANGE") | (k_here; (with_reducible show wpAny _ _ (pyIter (Value.ref _)) (fun it s₂ => LoopAtV _ _ _ _ _ (Str.ofString "ident") _ _ _ it s₂) _ _); refine' comps_iter ?zh ?zr ?zF ?zN ?zX ?zD ?zc ?zl ?zL ?z1 ?z3 ?zx ?zy ?zz ?_ ?_; (case zh => rfl); (case zr => with_reducible assumption); (case zF => k_asm); (case zN => k_asm); (case zX => k_asm); (case zD => with_reducible assumption); (case zc => k_mem); (case zl => k_mem); (case zL => k_mem); (case z1 => (first | with_reducible assumption | decide | exact b1 (by with_reducible assumption) | exact b2 (by with_reducible assumption) | exact b9 (by with_reducible assumption) | exact bm1 (by with_reducible assumption) | exact bm2 (by with_reducible assumption) | omega)); (case z3 => (first | with_reducible assumption | decide | exact b1 (by with_reducible assumption) | exact b2 (by with_reducible assumption) | exact b9 (by with_reducible assumption) | exact bm1 (by with_reducible assumption) | exact bm2 (by with_reducible assumption) | omega)); (case zx => with_reducible assumption); (case zy => with_reducible assumption); (case zz => with_reducible assumption); (all_goals (first | ((with_reducible intro h8 tk8 u81 u82 u83 x8 tx8 y8 ty8 rows8 rest8 x81 y81 y82 hI8 hO8 hC8 F8 N8); obtain ⟨MA8, hMA8⟩ := max_ex hC8 rA; obtain ⟨MB8, hMB8⟩ := max_ex hC8 rB; (try k_sweep)) | ((with_reducible intro I8 i8 v8 it8 t8 h8 tk8 m8 nw8 lI1 lI2 lI3 hi8 hit8 hJ8 F8 N8); obtain ⟨x8, tx8, y8, ty8, u81, u82, u83, vs8, nc8, rows8, R8, x81, y81, y82, e1, e2, hL8, hn8, hin8, hRI8⟩ := hJ8; subst e1 e2; have hO8 := off_pool (x := _) N8 (by k_mem) (rest := R8) (by (intro p9 hp9; (try simp only [List.mem_append] at hp9); simp only [List.mem_cons, List.mem_append, hp9, or_true, true_or])) hin8; have hO9 := fun p hp => Ne.symm (Nat.ne_of_lt (Nat.lt_trans lI1 (hRI8 p hp))); (try k_sweep)))); walk_say "ITER") | (k_here; (with_reducible show wpAny _ _ (PySem.call (Value.builtin _) [Value.ref _, Value.ref _]) _ _ _); refine' append_K (its := vs8.toArray) (n := nc8) ?k1 ?k2 ?k3 ?_ ?z; (case k1 => k_asm); (case k2 => k_asm); (case k3 => k_upd); (case z => (simp only [List.size_toArray]; rw [hL8.len, hn8]; exact Nat.le_trans (Nat.le_of_lt hi8) (by rw [sizeLine_eq]; decide))); intro h8 F8 N8; simp only [List.push_toArray] at N8; (try k_sweep); walk_say "APP") | (k_here; (with_reducible show UnrEnd _ _ _ _ _ (JComp _ _ _ _ _ _ _ _ _) _); refine' jcomp_end ?zs ?zF ?zm ?zN ?zI ?zit ?k0 ?k1 ?k2 ?k3 ?k4 ?sub hL8 hn8 hin8 hRI8 ?hoc ?l1 ?l2 ?x1 ?x2 ?x3 ?g1 ?g2 ?g3 ?g4; (case zs => exact rfl); (case zF => k_asm); (case zN => k_asm); (case zm => (intro z9 h91 h92 h93; simp only [if_neg h91, if_neg h92, if_neg h93])); (case zI => k_mem); (case zit => with_reducible assumption); (case k0 => k_mem); (case k1 => k_mem); (case k2 => k_mem); (case k3 => k_mem); (case k4 => k_mem); (case sub => (intro p9 hp9; (try simp only [List.mem_append] at hp9); simp only [List.mem_cons, List.mem_append, hp9, or_true, true_or])); (case hoc => with_reducible assumption); (case l1 => (first | exact al_lt (by with_reducible assumption) (by k_mem) | exact al_ch (by with_reducible assumption) (by with_reducible assumption) (by k_mem) | (simp only [AllLt] at *; omega))); (case l2 => (first | exact al_lt (by with_reducible assumption) (by k_mem) | exact al_ch (by with_reducible assumption) (by with_reducible assumption) (by k_mem) | (simp only [AllLt] at *; omega))); (case x1 => with_reducible assumption); (case x2 => with_reducible assumption); (case x3 => with_reducible assumption); (case g1 => (first | with_reducible assumption | decide | exact b1 (by with_reducible assumption) | exact b2 (by with_reducible assumption) | exact b9 (by with_reducible assumption) | exact bm1 (by with_reducible assumption) | exact bm2 (by with_reducible assumption) | omega)); (case g2 => (first | with_reducible assumption | decide | exact b1 (by with_reducible assumption) | exact b2 (by with_reducible assumption) | exact b9 (by with_reducible assumption) | exact bm1 (by with_reducible assumption) | exact bm2 (by with_reducible assumption) | omega)); (case g3 => (first | with_reducible assumption | decide | exact b1 (by with_reducible assumption) | exact b2 (by with_reducible assumption) | exact b9 (by with_reducible assumption) | exact bm1 (by with_reducible assumption) | exact bm2 (by with_reducible assumption) | omega)); (case g4 => (first | with_reducible assumption | decide | exact b1 (by with_reducible assumption) | exact b2 (by with_reducible assumption) | exact b9 (by with_reducible assumption) | exact bm1 (by with_reducible assumption) | exact bm2 (by with_reducible assumption) | omega)); walk_say "COMPEND") | (k_here; (with_reducible show RangeRest _ _ _ _ _ _ (Str.ofString "turn") _ _ _ _ _ _ _ _ _ _); refine' range_inv ?_ ?_ _ _ _ _ (jturn_start ?x1 ?x2 ?x3); (case x1 => with_reducible assumption); (case x2 => with_reducible assumption); (case x3 => with_reducible assumption); (all_goals (first | ((with_reducible intro i9 it9 t9 h8 tk8 m9 news9 hit9 hJ9 F8 N8); obtain ⟨x8, tx8, y8, ty8, u81, u82, u83, x81, y81, y82, e1, e2⟩ := hJ9; subst e1 e2; (try k_sweep)) | ((with_reducible intro h8 tk8 m9 news9 hJ9 F8 N8); obtain ⟨x8, tx8, y8, ty8, u81, u82, u83, x81, y81, y82, e1, e2⟩ := hJ9; subst e1 e2; (try k_sweep)))); walk_say "TURNS") | (k_here; (with_reducible show UnrEnd _ _ _ _ _ (JTurn _ _ _ _ _ _ _ _ _) _); refine' jturn_end ?zs ?zF ?zm ?zN ?zI ?zit ?m0 ?m1 ?m2 ?m3 ?sub ?hin ?hoc ?x1 ?x2 ?x3; (case zs => exact rfl); (case zF => k_asm); (case zN => k_asm); (case zm => (intro z9 h91 h92 h93; simp only [if_neg h91, if_neg h92, if_neg h93])); (case zI => k_mem); (case zit => with_reducible assumption); (case m0 => k_mem); (case m1 => k_mem); (case m2 => k_mem); (case m3 => k_mem); (case sub => (intro p9 hp9; (try simp only [List.mem_append] at hp9); simp only [List.mem_cons, List.mem_append, hp9, or_true, true_or])); (case hin => first | with_reducible assumption | exact inert_app (by with_reducible assumption) (by with_reducible assumption)); (case hoc => with_reducible assumption); (case x1 => with_reducible assumption); (case x2 => with_reducible assumption); (case x3 => with_reducible assumption); walk_say "TURNEND") | (k_here; (with_reducible show wpAny _ _ (compareOp CmpOp.NotEq (Value.ref _) (Value.ref _)) _ _ _); refine' ne_told ?zk ?zN ?m1 ?m2 ?r1 ?r2 ?s1 ?s2 ?zu ?_; (case zN => k_asm); (case m1 => k_mem); (case m2 => k_mem); (case r1 => with_reducible assumption); (case r2 => with_reducible assumption); (case zk => with_reducible assumption); (case s1 => (intro p9 hp9; (try simp only [List.mem_append] at hp9); simp only [List.mem_cons, List.mem_append, hp9, or_true, true_or])); (case s2 => (intro p9 hp9; (try simp only [List.mem_append] at hp9); simp only [List.mem_cons, List.mem_append, hp9, or_true, true_or])); (case zu => ke_room); walk_say "SAME") | (k_here; (with_reducible show wpAny _ _ (compareOp CmpOp.NotEq (Value.ref _) (Value.ref _)) _ _ _); refine' ne_told1 ?zk ?zN ?m1 ?r1 ?s1 ?t2 ?sh ?he ?zu ?_; (case zN => k_asm); (case m1 => k_mem); (case r1 => with_reducible assumption); (case s1 => (intro p9 hp9; (try simp only [List.mem_append] at hp9); simp only [List.mem_cons, List.mem_append, hp9, or_true, true_or])); (case zk => decide +kernel); (case t2 => ked_read); (case sh => decide +kernel); (case he => decide +kernel); (case zu => ke_room); walk_say "SAME1") | (k_here; (with_reducible show wpAny _ _ (compareOp CmpOp.Eq (Value.ref _) (Value.ref _)) _ _ _); refine' eq_end ?zN ?m1 ?m2 ?r1 ?r2 ?s1 ?s2 ?zu ?_; (case zN => k_asm); (case m1 => k_mem); (case m2 => k_mem); (case r1 => with_reducible assumption); (case r2 => with_reducible assumption); (case s1 => (intro p9 hp9; (try simp only [List.mem_append] at hp9); simp only [List.mem_cons, List.mem_append, hp9, or_true, true_or])); (case s2 => (intro p9 hp9; (try simp only [List.mem_append] at hp9); simp only [List.mem_cons, List.mem_append, hp9, or_true, true_or])); (case zu => ke_room); walk_say "SAMEEND") | (k_here; (with_reducible show wpAny _ _ (exec (Stmt.Assign _ (Expr.ListComp _ (⟨_, Expr.Tuple _ _ _, _, _⟩ :: _) _ _) _) _) _ _ _); refine assignComp_T (by k_asm) (by rfl) (by with_unfolding_all rfl) (by with_unfolding_all rfl) (by decide) (by rfl) (by decide) (by rfl) (by rfl) (by rfl) ?_; walk_say "BEGIN") | (k_here; (with_reducible show wpAny _ _ (eval (Expr.ListComp _ (⟨_, Expr.Tuple _ _ _, _, _⟩ :: _) _ _) _) _ _ _); refine listComp_T (by k_asm) (by with_unfolding_all rfl) (by decide) (by rfl) (by decide) (by rfl) ?_; walk_say "LISTT") | (k_here; (with_reducible show SrcT _ _ _ _ _ _ _ _ _ _ _ _ _ _); refine srcT_intro (by rfl) (by k_asm) (by k_asm) (by k_mem) (by exact Nat.le_of_ble_eq_true rfl) ?_; intro g8; lcg_lit; walk_say "SOURCE") | ((with_reducible show LCg.CompRest _ _ _ _ _ _ _ _ _ _ _ _ _ _ _ _ _ _ _); (with_unfolding_all first | (refine LCg.CompRest.succ ?_; intro v8 I8 oI8 C8 oC8 D8 m8 h8 tk8 E8 hv8 hC8' hx8 F8 N8 off8 ne8; (clear ne8); (first | lcg_open hv8 | (obtain ⟨t9', hv9⟩ := hv8; subst hv9))) | refine LCg.CompRest.zero ?_)) | ((with_reducible show LCg.CompEnd _ _ _ _ _ _ _ _ _ _ _ _ _ _); (with_unfolding_all (refine LCg.CompEnd.intro (by assumption) (by assumption) _ (fun _ hp => hp) (by first | assumption | (rename LCg.Off3 _ _ _ _ => q9; simp only [LCg.Off3, and_true] at q9 ⊢; exact q9)) (by lcg_src) ?_))) | ((with_reducible show LCg.FinE _ _ _ _ _ _ _); unfold LCg.FinE; intro D8 h8 tk8 F8 N8 o8; (try simp only [List.nil_append, List.cons_append] at N8); (try dsimp only)) | ((with_reducible show LCg.FinA _ _ _ _ _ _ _ _); unfold LCg.FinA; intro D8 h8 tk8 F8 N8 o8; (try simp only [List.nil_append, List.cons_append] at N8); (try dsimp only)) | (k_unfold; (try dsimp only)) | (k_end; wrow_close) | walk1 | (dsimp only; walk1) | (leave1; walk_say "STEP leave1"; try dsimp only))
end
