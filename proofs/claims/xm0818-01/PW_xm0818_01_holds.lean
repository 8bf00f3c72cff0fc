import PyProof.Rows.All
import Wide.All
import OpenK.AllK
import Wide.FinOn
import PySem.Challenge.RW_xm0818_01
open PySem PySem.W PySem.Spec PySem.Calls PyProof.Rows
set_option Elab.async false
set_option maxRecDepth 100000
set_option maxHeartbeats 8000000
local macro_rules | `(tactic| walk_at "execs nil") => `(tactic| (k_here; refine wpAny_execs_nil ?_))
local macro_rules | `(tactic| walk_at "execs cons") => `(tactic| (k_here; (with_reducible refine wpAny_execs_cons ?_); try dsimp only))

-- part: Hd
namespace Mine
open_top hd for PySem.Challenge.rw_xm0818_01
end Mine

-- part: Board
namespace Mine

theorem fm_lo {a k : Int} (h : 0 < k) : 0 ≤ a.fmod k := by
  rw [Int.fmod_eq_emod_of_nonneg a (Int.le_of_lt h)]
  exact Int.emod_nonneg a (Int.ne_of_gt h)
theorem fm_hi {a k : Int} (h : 0 < k) : a.fmod k < k := by
  rw [Int.fmod_eq_emod_of_nonneg a (Int.le_of_lt h)]
  exact Int.emod_lt_of_pos a h
theorem fd_lo {a k : Int} (h : 0 < k) (ha : 0 ≤ a) : 0 ≤ a.fdiv k := by
  rw [Int.fdiv_eq_ediv_of_nonneg a (Int.le_of_lt h)]
  exact Int.ediv_nonneg ha (Int.le_of_lt h)

/-- the written part is laid out for the walk -/
theorem fill : (fun (_ : OpenLaw) (_ : Params → Frag) => True) PySem.Challenge.rw_xm0818_01 Mine.hd.heap_39 := by
  k_fill
  trivial

/-- the call of `_law_board` upon a list of two ints: it hands back a draw and turns the list -/
def BoardSays (w : World) (mean : ExcName → Option Value) (mg mb : Str → Option Value) : Prop :=
  ∀ (dp un : Nat) (gd : Option (List Code)) (cn : Str) (cs : Scope) (a : Addr) (ccd : Value) (cl : List (Str × Addr)) (outer : List Env) (A₀ : Around) (base h₀ : Heap) (L : Addr) (m : Str → Option Value) (s : Shared) (Q E : Value → Shared → Prop)
    (nw : Obj → List (Addr × Obj)) (l : Addr) (x y k : Int) (tx ty tk : Tok) (c : Nat),
    Below A₀ base outer h₀ → Fr h₀ L s.heap m → (Mine.hd.heap_39 w.params).In h₀ → News h₀ L s.heap (nw (listOf [Value.int x tx, Value.int y ty].toArray c)) →
    Top Mine.hd.view_39 (looseW Mine.hd.view_39 []) mean mg mb h₀ → cs.kind = .function →
    (∀ o, (l, o) ∈ nw o) → (∀ o o', Upd l o o' (nw o) (nw o')) → 0 ≤ x → 0 ≤ y → y ≤ 66000 → 0 < k → k ≤ 9 →
    dp + 1 < recursionLimit → un + 8 < cLine →
    (∀ (r x' y' : Int) (t tx' ty' : Tok) (h' : Heap) (tk' : Nat), 0 ≤ r → r < k → 0 ≤ x' → 0 ≤ y' → y' ≤ 66000 →
      Fr h₀ L h' m → News h₀ L h' (nw (listOf [Value.int x' tx', Value.int y' ty'].toArray c)) → Q (.int r t) { s with heap := h', toks := tk' }) →
    wpAny (model PySem.Challenge.rw_xm0818_01.row.prog w) (ktrTop dp un gd cn cs L a ccd cl outer) (call (.ref 211) [.ref l, .int k tk]) Q E s

local macro_rules | `(tactic| k_mem) => `(tactic| ((rename (∀ o, (_, o) ∈ _) => hM9); exact hM9 _))
local macro_rules | `(tactic| k_upd) => `(tactic| ((rename (∀ o o', Upd _ o o' _ _) => hU9); exact hU9 _ _))
local macro_rules | `(tactic| news_mem) => `(tactic| ((rename (∀ o, (_, o) ∈ _) => hM9); exact hM9 _))

set_option maxHeartbeats 8000000 in
theorem board (w : World) (mean : ExcName → Option Value) (mg mb : Str → Option Value) : BoardSays w mean mg mb := by
  unfold BoardSays
  intro dp un gd cn cs a ccd cl outer A₀ base h₀ L m s Q E nw l x y k tx ty tk c B F X N T hk hM hU hx hy hy2 hk0 hk9 hd hu hret
  refine wpAny_call ?_
  k_dflt cell_enter
  w_top off
  k_steps
  all_goals (refine' hret _ _ _ _ _ _ _ _ ?_ ?_ ?_ ?_ ?_ ?eF ?eN; (case eF => k_asm); (case eN => k_asm))
  all_goals first
    | assumption
    | exact fm_lo hk0
    | exact fm_hi hk0
    | exact fd_lo hk0 hx
    | exact fm_lo (by decide)
    | exact Int.le_trans (Int.le_of_lt (fm_hi (by decide))) (by decide)
end Mine

-- part: Exc
namespace Mine

abbrev tail51 : List Value := [.ref 38, .type "Exception", .type "BaseException", .type "object"]
section
variable {prog : Program} {w : World} {A : Around} {E : Value → Shared → Prop} {h : Heap} {g : Array GenState} {d : Drawn} {t : Nat} {os : OsState}

theorem cls51 (X : (Mine.hd.heap_39 w.params).In h) : ∃ nm q bs dd k0 k1 k2 k3 k5, h.get? 51 = some (excClassObj nm q 51 50 bs tail51 true [] [] false none dd k0 k1 k2 k3 k5 "Exception.__new__") :=
  ⟨_, _, _, _, _, _, _, _, _, X 51 _ (by k_is)⟩
end
section
variable {prog : Program} {w : World} {A : Around} {R : Result → Shared → Prop} {h : Heap} {g : Array GenState} {d : Drawn} {t : Nat} {os : OsState}
variable {nm q : Str} {C N : Addr} {bs : List Value} {hdct : Bool} {sn : List Str} {sub : List Value} {ab : Bool} {col : Option Bool} {dd : Option Addr} {k0 k1 k2 k3 k5 : Option Value}

theorem new51 {rest : List Value} (hC : h.get? C = some (excClassObj nm q C N bs tail51 hdct sn sub ab col dd k0 k1 k2 k3 k5 "Exception.__new__"))
    (hq : R (.ok (.ret (.ref (h.objs.size + 1)))) ⟨(h.push { cls := .type "tuple", data := .seq rest.toArray }).push
      { cls := .ref C, data := .fields #[.ref h.objs.size, .none, .none, .none, .bool false, .none] }, g, d, t, os⟩) (hrest : rest.length ≤ sizeLine := by size_fits) :
    codeAny (model prog w) A (.builtin "Exception.__new__" ⟨.ref C :: rest, []⟩) R ⟨h, g, d, t, os⟩ := by
  have Fn := PySem.F.excBase_Exception
  have hends := Fn.ends
  have hcB : (Value.ref C :: tail51).contains (.type "Exception") = true := by rw [List.contains_cons, show tail51.contains (.type "Exception") = true from by decide +kernel, Bool.or_true]
  have hcA : (Value.ref C :: tail51).contains (.type "AttributeError") = false := by rw [List.contains_cons, show tail51.contains (.type "AttributeError") = false from by decide +kernel]; rfl
  have hcN : (Value.ref C :: tail51).contains (.type "NameError") = false := by rw [List.contains_cons, show tail51.contains (.type "NameError") = false from by decide +kernel]; rfl
  refine codeAny_builtinAt Fn.entry ?_
  unfold Builtin.«BaseException.__new__»
  refine PySem.wpAt_bind ?_
  show PySem.wpAt _ _ _ (stack >>= _) _ _ _
  refine PySem.wpAt_bind (PySem.wpAt_stack fun p below => PySem.wpAt_of_wpAny ?_)
  wp_walk
  refine PySem.wpAt_of_wpAny ?_
  rw [Fn.owner]
  repeat (first | with_reducible refine wpAny_madeHere_exc Fn.canon hC ?_ | with_reducible refine wpAny_loadPart_at hC ?_ | (with_reducible refine wpAny_isSubtype_exc hC ?_; first | rw [hcB] | rw [hcA] | rw [hcN]) | wp_step)
  show R _ _
  rw [Heap.size_push]
  exact hq
end

section
variable {prog : Program} {w : World} {A : Around} {E : Value → Shared → Prop} {h : Heap} {g : Array GenState} {d : Drawn} {t : Nat} {os : OsState}

theorem typecall51 {rest : List Value} {Q : PySem.Fin → Shared → Prop} (X : (Mine.hd.heap_39 w.params).In h)
    (hq : ∀ h' e, Heap.MadeExcOf h h' e (.ref 51) rest →
      wpAny (model prog w) A (call (.ref 35) (.ref e :: rest)) (fun r s' => r = .none ∧ Q (.done (.ret (.ref e))) s') E ⟨h', g, d, t, os⟩) (hrest : rest.length ≤ sizeLine := by size_fits) :
    wpAny (model prog w) A (Builtin.«type.__call__» ⟨.ref 51 :: rest, []⟩) Q E ⟨h, g, d, t, os⟩ := by
  obtain ⟨nm, q, bs, dd, k0, k1, k2, k3, k5, hC⟩ := cls51 X
  have F := PySem.F.excBase_Exception
  repeat (first | with_reducible refine wpAny_loadPart_at hC ?_ | with_reducible refine wpAny_madeBy_exc hC ?_ | wp_step)
  refine codeAny_call_builtin_code (Code.quiet_builtin _ F.quiet) (wpAny_check_new_subU F (bmB := tail51) (by decide +kernel) .base hC ?_)
  refine new51 hC ?_ hrest
  show wpAny _ _ _ _ _ _
  have hC₁ := Heap.get?_push_of_some { cls := .ref 51, data := .fields #[.ref h.objs.size, .none, .none, .none, .bool false, .none] }
    (Heap.get?_push_of_some { cls := .type "tuple", data := .seq rest.toArray } hC)
  have X₁ : (Mine.hd.heap_39 w.params).In ((h.push { cls := .type "tuple", data := .seq rest.toArray }).push { cls := .ref 51, data := .fields #[.ref h.objs.size, .none, .none, .none, .bool false, .none] }) :=
    X.keeps fun b o e => Heap.get?_push_of_some _ (Heap.get?_push_of_some _ e)
  have hget : ((h.push { cls := .type "tuple", data := .seq rest.toArray }).push
      { cls := .ref 51, data := .fields #[.ref h.objs.size, .none, .none, .none, .bool false, .none] }).get? (h.objs.size + 1) = some
      { cls := .ref 51, data := .fields #[.ref h.objs.size, .none, .none, .none, .bool false, .none] } := by heap_get
  have hcC : (Value.ref 51 :: tail51).contains (.ref 51) = true := by decide +kernel
  unfold isInstance
  repeat (first | with_reducible refine wpAny_loadPart_at hget ?_ | (with_reducible refine wpAny_isSubtype_exc hC₁ ?_; rw [hcC]) | wp_step)
  show wpAny _ _ (typeLookup (.ref 51) _) _ _ _
  refine (looks_findIn X₁ (show findIn (Mine.hd.heap_39 w.params) (.ref 51) "__init__" = some (some (.ref 35)) from by k_is)).here ?_
  refine wpAny_holding (wpAny_bind ((bind_fn X₁ _ (by k_is)).here ?_))
  refine (wpAny_bind (wpAny_mono (hq _ (h.objs.size + 1) ⟨fun b o hb => Heap.get?_push_of_some _ (Heap.get?_push_of_some _ hb), Heap.get?_none_of_le (Nat.le_succ _), h.objs.size, hget, Heap.get?_none_of_le (Nat.le_refl _), ?_⟩) (fun r s' hr => ?_) fun _ _ x => x))
  · exact Heap.get?_push_of_some _ (Heap.get?_push_at rfl rfl)
  · obtain ⟨rfl, hQ⟩ := hr
    wp_walk
    exact hQ

theorem call51 {rest : List Value} {Q : Value → Shared → Prop} (X : (Mine.hd.heap_39 w.params).In h)
    (hq : ∀ h' e, Heap.MadeExcOf h h' e (.ref 51) rest →
      wpAny (model prog w) (A.under (.builtin "type.__call__" ⟨.ref 51 :: rest, []⟩)) (call (.ref 35) (.ref e :: rest)) (fun r s' => r = .none ∧ Q (.ref e) s') E ⟨h', g, d, t, os⟩) (hrest : rest.length ≤ sizeLine := by size_fits) :
    wpAny (model prog w) A (call (.ref 51) rest) Q E ⟨h, g, d, t, os⟩ := by
  obtain ⟨nm, q, bs, dd, k0, k1, k2, k3, k5, hC⟩ := cls51 X
  have f1 := tc_lookup
  have f2 := tc_bind (.ref 51)
  have hT : (⟨h, g, d, t, os⟩ : Shared).TypeIs (.ref 51) "type" := ⟨_, hC, rfl⟩
  refine wpAny_call (codeAny_of_tree ?_)
  show wpAny _ _ (callAny (.ref 51) _) _ _ _
  repeat (any_goals (first | assumption | with_reducible refine wpAny_loadPart_at hC ?_ | wp_step))
  refine ⟨rfl, ?_⟩
  refine codeAny_call_builtin_at (Code.quiet_builtin _ (by decide +kernel)) entry_typeCall (wpAny_check_type_call_sub hC (typecall51 (hrest := hrest) X fun h' e hm => ?_))
  exact hq h' e hm
end
end Mine

-- part: I2
namespace Mine
abbrev excObj (t : Addr) : Obj := { cls := .ref 51, data := .fields #[.ref t, .none, .none, .none, .bool false, .none] }
abbrev tupObj (vs : List Value) : Obj := { cls := .type "tuple", data := .seq vs.toArray }
theorem meta_Exc : typeOf (.type "Exception") = pure (.type "type") := by kernel_rfl
section
variable {prog : Program} {w : World} {A : Around} {E : Value → Shared → Prop} {h : Heap} {g : Array GenState} {d : Drawn} {t : Nat} {os : OsState}
theorem exc_init {e ta : Addr} {v : Value} {Q : Value → Shared → Prop} (X : (Mine.hd.heap_39 w.params).In h) (he : h.get? e = some (excObj ta))
    (hq : ∀ h', (∀ b o, b ≠ e → h.get? b = some o → h'.get? b = some o) → h.get? h.objs.size = none → h'.get? e = some (excObj h.objs.size) → h'.get? h.objs.size = some (tupObj [v]) → Q .none ⟨h', g, d, t, os⟩) :
    wpAny (model prog w) A (call (.builtin "Exception.__init__") [.ref e, v]) Q E ⟨h, g, d, t, os⟩ := by
  obtain ⟨nm, q, bs, dd, k0, k1, k2, k3, k5, hC⟩ := cls51 X
  have F := PySem.F.excBase_Exception
  have hcB : (Value.ref 51 :: tail51).contains (.type "Exception") = true := by decide +kernel
  have hshort := F.noStar
  have chk : ∀ {Q' : Unit → Shared → Prop} {A' : Around}, Q' () ⟨h, g, d, t, os⟩ → wpAny (model prog w) A' (checkBuiltinCall "Exception.__init__" ⟨[.ref e, v], []⟩) Q' (fun e' s' => E e' s') ⟨h, g, d, t, os⟩ := by
    intro Q' A' hq'
    simp only [checkBuiltinCall, F.initKind, F.initSplit, F.initRow]
    repeat (first | with_reducible refine wpAny_loadPart_at he ?_ | with_reducible refine wpAny_loadPart_at hC ?_ | (with_reducible refine wpAny_isSubtype_exc hC ?_; rw [hcB]) | wp_step)
    exact hq'
  refine wpAny_call (codeAny_call_builtin F.init.plain F.initEntry (chk ?_))
  wp_walk
  have hne : e ≠ h.objs.size := Nat.ne_of_lt (Heap.lt_size he)
  refine hq _ (fun b o hb ho => ?_) (Heap.get?_none_of_le (Nat.le_refl _)) ?_ ?_
  · rw [Heap.get?_update_other _ _ (Ne.symm hb)]
    exact Heap.get?_push_of_some _ ho
  · rw [Heap.get?_update_self _ (Heap.get?_push_of_some _ he) rfl]
    rfl
  · rw [Heap.get?_update_other _ _ hne]
    exact Heap.get?_push_at rfl rfl
end

section
variable {prog : Program} {w : World} {A : Around} {E : Value → Shared → Prop} {h : Heap} {g : Array GenState} {d : Drawn} {t : Nat} {os : OsState}
theorem osa51 {R : Result → Shared → Prop} {e ta : Addr} {name : Str} {tk : Tok} {v : Value} (X : (Mine.hd.heap_39 w.params).In h) (he : h.get? e = some (excObj ta))
    (ha : findIn (Mine.hd.heap_39 w.params) (.ref 51) name = some none)
    (hq : ∀ h' tk' dx, (∀ b o, b ≠ e → h.get? b = some o → h'.get? b = some o) → h.get? dx = none → h'.get? e = some { excObj ta with dict := some dx } → R (.ok (.ret .none)) ⟨h', g, d, tk', os⟩) :
    codeAny (model prog w) A (.call (.builtin "object.__setattr__") ⟨[.ref e, .str name tk, v], []⟩) R ⟨h, g, d, t, os⟩ := by
  have SF := PySem.F.store_object
  obtain ⟨nm, q, bs, dd, k0, k1, k2, k3, k5, hC⟩ := cls51 X
  have ty : Looks (model prog w) h (typeOf (.ref e)) (.ref 51) := (Looks.ld (part := none) he).andThen .now
  have sub : Looks (model prog w) h (isInstance (.ref e) (.type "object")) true := ty.andThen (looks_subIn X (by k_is))
  have hm : Looks (model prog w) h (mroOf (.ref 51)) (.ref 51 :: tail51) := (Looks.ld (part := none) hC).andThen .now
  refine codeAny_call_builtin SF.slot.plain SF.entry (@check_slot (model prog w) _ _ ⟨h, g, d, t, os⟩ "object.__setattr__" "object" "__setattr__" (.ref e) [.str name tk, v] [] _ SF.kind SF.split sub (SF.args (.ref e) (.str name tk) v) ?_)
  rw [osa_eq, refuse_eq]
  refine wpAny_bind (wpAny_bind (ty.here (wpAny_bind (hm.here ?_))))
  rw [refuseLoop_ref, refuseLoop_ref, PySem.F.store_Exception.passes]
  refine wpAny_pure (wpAny_bind (ty.here (wpAny_bind ((looks_findIn X ha).here (wpAny_bind (wpAny_pure ?_))))))
  dsimp only
  unfold PySem.Builtin.ObjectAttr.storeInOwnDict
  wp_walk
  have hne : e ≠ h.objs.size := Nat.ne_of_lt (Heap.lt_size he)
  have D : ((h.push { cls := .type "dict", data := .dict #[] }).update e fun o => { cls := o.cls, dict := some h.objs.size, data := o.data, slots := o.slots }).get? h.objs.size = some { cls := .type "dict", data := .dict #[] } :=
    (Heap.get?_update_ne _ _ _ _ hne.symm).trans (Heap.get?_push_at rfl rfl)
  refine wpAny_askSetting (wpAny_pure (wpAny_bind (wpAny_mkText (wpAny_bind (wpAny_loadPart D ?_)))))
  dsimp only
  have c : aRefKeyMayBeTheName name #[] = false := by rw [aRefKeyMayBeTheName_at]; simp
  rw [c]
  refine wpAny_updatePart D ?_
  have D' := Heap.get?_update_self (Obj.putName name (if name.cps.isEmpty = true then 0 else reduceHash (w.params.strHash name.cps)) (.str name t) v) D (by
    rw [show ({ cls := .type "dict", data := .dict #[] } : Obj) = dictOf [] 0 from rfl, putName_dict]; rfl)
  refine wpAny_bind (wpAny_lookBehind D' ?_ (wpAny_pure ?_))
  · rw [show ({ cls := .type "dict", data := .dict #[] } : Obj) = dictOf [] 0 from rfl, putName_dict]
    exact pastItsLine_dict (by rw [List.size_toArray, sizeLine_eq]; unfold putL; simp)
  · refine hq _ _ h.objs.size (fun b o hb ho => ?_) (Heap.get?_none_of_le (Nat.le_refl _)) ?_
    · have hbs : b ≠ h.objs.size := Nat.ne_of_lt (Heap.lt_size ho)
      exact (Heap.get?_update_ne _ _ _ _ hbs).trans ((Heap.get?_update_ne _ _ _ _ hb).trans (Heap.get?_push_of_some _ ho))
    · refine (Heap.get?_update_ne _ _ _ _ hne).trans ?_
      exact Heap.get?_update_self _ (Heap.get?_push_of_some _ he) rfl

theorem store51 {Q : Unit → Shared → Prop} {e ta : Addr} {v : Value} {name : Str} (X : (Mine.hd.heap_39 w.params).In h) (he : h.get? e = some (excObj ta))
    (ha : findIn (Mine.hd.heap_39 w.params) (.ref 51) name = some none)
    (hq : ∀ h' tk' dx, (∀ b o, b ≠ e → h.get? b = some o → h'.get? b = some o) → h.get? dx = none → h'.get? e = some { excObj ta with dict := some dx } → Q () ⟨h', g, d, tk', os⟩) :
    wpAny (model prog w) A (setAttr (.ref e) name v) Q E ⟨h, g, d, t, os⟩ :=
  set_plain (s := ⟨h, g, d, t, os⟩) X (⟨he, rfl, rfl, trivial⟩ : InstAt h e (excObj ta) 51 none) (by k_is) (osa51 X he ha fun h' tk' dx a b c => hq h' tk' dx a b c)
end
end Mine

-- part: InitA
namespace Mine

theorem frKept {h₀ h h' : Heap} {L e : Addr} {m : Str → Option Value} (F : Fr h₀ L h m) (hL : e ≠ L) (hn : h₀.get? e = none) (hk : ∀ b o, b ≠ e → h.get? b = some o → h'.get? b = some o) : Fr h₀ L h' m := by
  obtain ⟨⟨o, es, ep, ho, r⟩, k, a⟩ := F
  refine ⟨⟨o, es, ep, hk _ _ (Ne.symm hL) ho, r⟩, fun b ob hb => hk b ob (fun q => ?_) (k b ob hb), a⟩
  rw [q, hn] at hb
  cases hb
theorem newsKept {h₀ h h' : Heap} {L e : Addr} {news : List (Addr × Obj)} (N : News h₀ L h news) (hne : ∀ p ∈ news, p.1 ≠ e) (hk : ∀ b o, b ≠ e → h.get? b = some o → h'.get? b = some o) : News h₀ L h' news :=
  fun p hp => ⟨hk _ _ (hne p hp) (N p hp).1, (N p hp).2⟩
theorem newsCons {h₀ h : Heap} {L a : Addr} {o : Obj} {news : List (Addr × Obj)} (ho : h.get? a = some o) (hL : a ≠ L) (hn : h₀.get? a = none) (N : News h₀ L h news) : News h₀ L h ((a, o) :: news) := fun p hp => by
  rcases List.mem_cons.mp hp with rfl | hp
  · exact ⟨ho, hL, hn⟩
  · exact N p hp

section
variable {prog : Program} {w : World} {A : Around} {E : Value → Shared → Prop} {s : Shared} {h₀ : Heap} {L : Addr} {m : Str → Option Value} {news : List (Addr × Obj)} {e ta : Addr} {v : Value}
theorem exc_initK {Q : Value → Shared → Prop} (F : Fr h₀ L s.heap m) (X₀ : (Mine.hd.heap_39 w.params).In h₀) (N : News h₀ L s.heap ((e, excObj ta) :: news)) (hne : ∀ p ∈ news, p.1 ≠ e)
    (h : ∀ t2 h', Fr h₀ L h' m → News h₀ L h' ((e, excObj t2) :: (t2, tupObj [v]) :: news) → t2 ≠ e → (∀ p ∈ news, p.1 ≠ t2) → Q .none { s with heap := h' }) :
    wpAny (model prog w) A (call (.builtin "Exception.__init__") [.ref e, v]) Q E s := by
  obtain ⟨hp, g, d, t, os⟩ := s
  have he := N _ (.head _)
  refine exc_init (X₀.keeps F.keep) he.1 fun h' hk hno h1 h2 => ?_
  have hL : hp.objs.size ≠ L := fun q => by
    obtain ⟨o, _, _, ho, _⟩ := F.ns
    rw [← q, hno] at ho
    cases ho
  have hte : hp.objs.size ≠ e := Ne.symm (Nat.ne_of_lt (Heap.lt_size he.1))
  have hn0 : h₀.get? hp.objs.size = none := by
    cases q : h₀.get? hp.objs.size with
    | none => rfl
    | some o => rw [F.keep _ _ q] at hno; cases hno
  exact h _ h' (frKept F he.2.1 he.2.2 hk) (newsCons h1 he.2.1 he.2.2 (newsCons h2 hL hn0 (newsKept (fun p q => N p (.tail _ q)) hne hk))) hte
    fun p hp' => Nat.ne_of_lt (Heap.lt_size (N p (.tail _ hp')).1)

theorem store51K {Q : Unit → Shared → Prop} {name : Str} (F : Fr h₀ L s.heap m) (X₀ : (Mine.hd.heap_39 w.params).In h₀) (N : News h₀ L s.heap ((e, excObj ta) :: news)) (hne : ∀ p ∈ news, p.1 ≠ e)
    (ha : findIn (Mine.hd.heap_39 w.params) (.ref 51) name = some none)
    (h : ∀ dx h' tk', Fr h₀ L h' m → News h₀ L h' ((e, { excObj ta with dict := some dx }) :: news) → Q () { s with heap := h', toks := tk' }) :
    wpAny (model prog w) A (setAttr (.ref e) name v) Q E s := by
  obtain ⟨hp, g, d, t, os⟩ := s
  have he := N _ (.head _)
  exact store51 (X₀.keeps F.keep) he.1 ha fun h' tk' dx hk _ h1 =>
    h dx h' tk' (frKept F he.2.1 he.2.2 hk) (newsCons h1 he.2.1 he.2.2 (newsKept (fun p q => N p (.tail _ q)) hne hk))
end

theorem apart2 {e t : Addr} {o : Obj} {news : List (Addr × Obj)} (h : ∀ p ∈ news, p.1 ≠ e) (ht : t ≠ e) : ∀ p ∈ (t, o) :: news, p.1 ≠ e := fun p hp => by
  rcases List.mem_cons.mp hp with rfl | hp
  · exact ht
  · exact h p hp

local macro_rules | `(tactic| k_mem) => `(tactic| assumption)
local macro_rules | `(tactic| news_mem) => `(tactic| assumption)
local macro_rules | `(tactic| k_room) => `(tactic| ktr_room)
local macro_rules | `(tactic| units_room) => `(tactic| ktr_units)

set_option maxHeartbeats 8000000 in
theorem init35 (w : World) (mean : ExcName → Option Value) (mg mb : Str → Option Value) :
  ∀ (dp un : Nat) (gd : Option (List Code)) (cn : Str) (cs : Scope) (a : Addr) (ccd : Value) (cl : List (Str × Addr)) (outer : List Env) (A₀ : Around) (base h₀ : Heap) (L : Addr) (m : Str → Option Value) (s : Shared) (Q E : Value → Shared → Prop)
    (news : List (Addr × Obj)) (e t : Addr) (msg : Str) (tm : Tok),
    Below A₀ base outer h₀ → Fr h₀ L s.heap m → (Mine.hd.heap_39 w.params).In h₀ → News h₀ L s.heap ((e, excObj t) :: news) →
    Top Mine.hd.view_39 (looseW Mine.hd.view_39 []) mean mg mb h₀ → cs.kind = .function →
    dp + 4 < recursionLimit → un + 30 < cLine → (∀ p ∈ news, p.1 ≠ e) →
    (∀ t2 dx h' tk', Fr h₀ L h' m → News h₀ L h' ((e, { excObj t2 with dict := some dx }) :: (t2, tupObj [.str msg tm]) :: news) → t2 ≠ e → (∀ p ∈ news, p.1 ≠ t2) → Q .none { s with heap := h', toks := tk' }) →
    wpAny (model PySem.Challenge.rw_xm0818_01.row.prog w) ((ktrTop dp un gd cn cs L a ccd cl outer).under (.builtin "type.__call__" ⟨.ref 51 :: [.str msg tm], []⟩)) (call (.ref 35) [.ref e, .str msg tm]) Q E s := by
  intro dp un gd cn cs a ccd cl outer A₀ base h₀ L m s Q E news e t msg tm B F X N T hk hd hu hne hret
  refine wpAny_call ?_
  k_dflt cell_enter
  k_with_none
  k_with "getMethod type:Exception" => (k_here; refine' method_type (by k_asm) (by k_asm) (by exact meta_Exc) (by decide +kernel) (by k_dflt k_is) (by k_handed) ?_)
  k_with "call builtin:Exception.__init__ cons nil" => (k_here; k_dflt (refine' exc_initK (by k_asm) (by k_asm) (by k_asm) (by assumption) ?_; k_whole); intro t2' h' F' N' d1' d2'; (try k_sweep))
  k_with "setAttr ref str" => (k_here; k_dflt (refine' store51K (by k_asm) (by k_asm) (by k_asm) (by exact apart2 (by assumption) (by assumption)) (by k_is) ?_; k_whole); intro dx' h' tk' F' N'; (try k_sweep))
  w_top off
  k_steps
  all_goals exact hret _ _ _ _ (by assumption) (by assumption) (by assumption) (by assumption)
end Mine

-- part: Rais
namespace Mine

theorem call51K (w : World) (mean : ExcName → Option Value) (mg mb : Str → Option Value) {dp un : Nat} {gd : Option (List Code)} {cn : Str} {cs : Scope} {a : Addr} {ccd : Value} {cl : List (Str × Addr)} {outer : List Env} {A₀ : Around} {base h₀ : Heap} {L : Addr} {m : Str → Option Value} {s : Shared} {Q E : Value → Shared → Prop}
    {news : List (Addr × Obj)} {msg : Str} {tm : Tok}
    (B : Below A₀ base outer h₀) (F : Fr h₀ L s.heap m) (X : (Mine.hd.heap_39 w.params).In h₀) (N : News h₀ L s.heap news) (T : Top Mine.hd.view_39 (looseW Mine.hd.view_39 []) mean mg mb h₀) (hk : cs.kind = .function)
    (hd : dp + 4 < recursionLimit) (hu : un + 30 < cLine)
    (ret : ∀ e t2 dx h' tk', Fr h₀ L h' m → News h₀ L h' ((e, { excObj t2 with dict := some dx }) :: (t2, tupObj [.str msg tm]) :: news) → t2 ≠ e → (∀ p ∈ news, p.1 ≠ e) → (∀ p ∈ news, p.1 ≠ t2) → Q (.ref e) { s with heap := h', toks := tk' }) :
    wpAny (model PySem.Challenge.rw_xm0818_01.row.prog w) (ktrTop dp un gd cn cs L a ccd cl outer) (call (.ref 51) [.str msg tm]) Q E s := by
  obtain ⟨hp, g, d, t, os⟩ := s
  refine call51 (X.keeps F.keep) (fun h' e hm => ?_) (by rw [sizeLine_eq]; show 1 ≤ 16777216; decide)
  obtain ⟨t0, ho, htn, ht⟩ := hm.there
  have F' : Fr h₀ L h' m := F.after hm.keeps
  have heL : e ≠ L := fun q => by
    obtain ⟨o, _, _, h0, _⟩ := F.ns
    have z := hm.new
    rw [q, h0] at z
    cases z
  have he0 : h₀.get? e = none := by
    cases q : h₀.get? e with
    | none => rfl
    | some o => have z := F.keep _ _ q; rw [hm.new] at z; cases z
  have hne : ∀ p ∈ news, p.1 ≠ e := fun p hp q => by
    have z := (N p hp).1
    rw [q, hm.new] at z
    cases z
  have N' : News h₀ L h' ((e, excObj t0) :: news) := newsCons ho heL he0 fun p hp => ⟨hm.keeps _ _ (N p hp).1, (N p hp).2⟩
  exact init35 w mean mg mb dp un gd cn cs a ccd cl outer A₀ base h₀ L m _ _ _ news e t0 msg tm B F' X N' T hk hd hu hne
    fun t2 dx h₂ tk₂ F₂ N₂ d1 d2 => ⟨rfl, ret e t2 dx h₂ tk₂ F₂ N₂ d1 hne d2⟩

def Raising (w : World) (E : Value → Shared → Prop) (v : Value) (s : Shared) : Prop :=
  ∃ e t dx, v = .ref e ∧ (Mine.hd.heap_39 w.params).In s.heap ∧ s.heap.get? e = some { excObj t with dict := some dx } ∧ E (.ref e) s
theorem raising_of {w : World} {E : Value → Shared → Prop} {s : Shared} {h₀ : Heap} {L : Addr} {m : Str → Option Value} {e t dx : Addr} {news : List (Addr × Obj)} (F : Fr h₀ L s.heap m) (X : (Mine.hd.heap_39 w.params).In h₀)
    (N : News h₀ L s.heap ((e, { excObj t with dict := some dx }) :: news)) (h : E (.ref e) s) : Raising w E (.ref e) s :=
  ⟨e, t, dx, rfl, X.keeps F.keep, (N _ (.head _)).1, h⟩

section
variable {prog : Program} {w : World} {A : Around} {E : Value → Shared → Prop} {s : Shared} {env : Env}
theorem raiseX {e0 : PySem.Expr} {pos : Pos} {Q : Flow → Shared → Prop} (hh : A.handled = none) (h : wpAny (model prog w) A (eval e0 env) (Raising w E) E s) : wpAny (model prog w) A (exec (.Raise (some e0) none pos) env) Q E s := by
  show wpAny _ A (do standAt pos; raiseStmt env (some (do let v ← eval e0 env; standAt pos; pure v)) none) Q E s
  refine wpAny_bind (wpAny_standAt ?_)
  have hcB : (Value.ref 51 :: tail51).contains (.type "BaseException") = true := by decide +kernel
  unfold raiseStmt
  refine wpAny_bind (wpAny_bind (wpAny_mono h (fun v s₁ h₁ => wpAny_bind (wpAny_standAt (wpAny_pure ?_))) fun _ _ x => x))
  obtain ⟨e, t, dx, rfl, X, he, hE⟩ := h₁
  obtain ⟨nm, q, bs, dd, k0, k1, k2, k3, k5, hC⟩ := cls51 X
  obtain ⟨hp, g, d, tk, os⟩ := s₁
  repeat (first | with_reducible refine wpAny_loadPart_at he ?_ | with_reducible refine wpAny_loadPart_at hC ?_ | (with_reducible refine wpAny_isSubtype_exc hC ?_; rw [hcB]) | wp_step)
  exact wpAny_raiseNew_none hh hE
end

section
variable {M : Model} {A : Around} {E : Value → Shared → Prop} {s' : Shared} {base g : Heap} {outer : List Env} {L a e t : Addr} {m : Str → Option Value} {name : Str} {scope : Scope} {cd : Value} {Q : Unit → Shared → Prop} {news : List (Addr × Obj)} {vs : List Value} {dx : Option Addr}
theorem leave_raiseX (K : Below A base outer g) (F : Fr g L s'.heap m) (N : News g L s'.heap ((e, { excObj t with dict := dx }) :: (t, tupObj vs) :: news)) (hte : t ≠ e) (h1 : ∀ p ∈ news, p.1 ≠ e) (h2 : ∀ p ∈ news, p.1 ≠ t)
    (hQ : ∀ h' t, RaisedS base g outer e (.ref 51) t vs news h' → RaisedK base outer e (.ref 51) t vs news h' → g.UpToSlots h' → Q () { s' with heap := h' }) (hk : scope.kind = .function := by rfl) :
    wpAny M (A.deeper (envOf name scope L a cd)) (leaving (envOf name scope L a cd) (.ref e)) Q E s' := by
  have K' := K.push (name := name) (a := a) (cd := cd) F hk
  have hin : ∀ env ∈ (envOf name scope L a cd :: outer), ∀ b, env.frame = some b → b ∈ e :: t :: (envOf name scope L a cd :: outer).filterMap (·.frame) := fun env he b hb => .tail _ (.tail _ (List.mem_filterMap.mpr ⟨env, he, hb⟩))
  have ge : g.get? e = none := (N _ (.head _)).2.2
  have gt : g.get? t = none := (N _ (.tail _ (.head _))).2.2
  have st : base.StaysIn (hideAll s'.heap (e :: t :: (envOf name scope L a cd :: outer).filterMap (·.frame))) := fun b o q => hideAll_get _ (K'.stays b o q) fun hm => by
    rcases List.mem_cons.mp hm with rfl | hm
    · rw [fresh_of_stays K.stays ge] at q; cases q
    rcases List.mem_cons.mp hm with rfl | hm
    · rw [fresh_of_stays K.stays gt] at q; cases q
    rw [(K'.frames.mem hm).1] at q; cases q
  have sg : ∀ b o, g.get? b = some o → b ∉ outer.filterMap (·.frame) → (hideAll s'.heap (e :: t :: (envOf name scope L a cd :: outer).filterMap (·.frame))).get? b = some o := fun b o q nm => hideAll_get _ (F.keep b o q) fun hm => by
    rcases List.mem_cons.mp hm with rfl | hm
    · rw [ge] at q; cases q
    rcases List.mem_cons.mp hm with rfl | hm
    · rw [gt] at q; cases q
    rcases kts_mem hm with z | z
    · rw [z, kts_self F] at q
      cases q
    · exact nm z
  have hl : ∀ q ∈ news, (hideAll s'.heap (e :: t :: (envOf name scope L a cd :: outer).filterMap (·.frame))).get? q.1 = some q.2 ∧ g.get? q.1 = none ∧ base.get? q.1 = none := fun q hq => by
    have Nq := N q (.tail _ (.tail _ hq))
    refine ⟨hideAll_get _ Nq.1 fun hm => ?_, Nq.2.2, fresh_of_stays K.stays Nq.2.2⟩
    rcases List.mem_cons.mp hm with hm | hm
    · exact h1 q hq hm
    rcases List.mem_cons.mp hm with hm | hm
    · exact h2 q hq hm
    obtain ⟨env, he, hf⟩ := List.mem_filterMap.mp hm
    rcases List.mem_cons.mp he with rfl | he
    · exact Nq.2.1 (Option.some.inj hf).symm
    · obtain ⟨o, ho, _⟩ := (K.frames.mem (List.mem_filterMap.mpr ⟨env, he, hf⟩)).2
      rw [Nq.2.2] at ho; cases ho
  refine wpAny_leaving_firstW (a0 := .ref t) K'.stack (funFrames_hide K'.frames hin) rfl (N _ (.head _)).1 (fun b o q => of_hideAll _ q) (hideAll_none _ (.head _)) rfl rfl rfl fun h' hL => ?_
  obtain ⟨k1, ⟨_, _, k2⟩, k3, k4⟩ := hL
  have R : RaisedS base g outer e (.ref 51) t vs news h' := ⟨⟨_, st, sg, hl, ⟨k1, hideAll_none _ (.head _), k2, k3⟩, hideAll_none _ (.tail _ (.head _))⟩, Heap.TupAt.of_slots ⟨_, _, (N _ (.tail _ (.head _))).1, rfl, rfl⟩ k4⟩
  exact hQ h' t R R.toK ((Heap.UpToSlots.of_keeps F.keep).trans k4)
end

end Mine

-- part: Told
namespace Mine

def toldLl (last' st en hi lo : Int) (al' : Bool) : Bool := decide (1 ≤ st ∧ st ≤ 7 ∧ en = 0 ∧ hi = 0 ∧ 0 ≤ lo ∧ lo ≤ 15)
def toldPr (last st en hi lo : Int) (al : Bool) : Bool := decide (0 ≤ st ∧ st ≤ en ∧ en ≤ last ∧ (st = 0 → en = 0) ∧ (st ≠ 0 → al = true) ∧ 0 ≤ lo ∧ lo ≤ 13 ∧ (hi = 0 ∨ hi = lo + 1))
def toldSq (last st en hi lo : Int) (al' : Bool) : Bool := decide (st = 0 ∧ en = last ∧ hi = 0 ∧ lo = 0)
theorem endB {h₀ h' : Heap} {L : Addr} {m : Str → Option Value} {news : List (Addr × Obj)} {s : Shared} {Q : Value → Shared → Prop} {x y : Bool} {tk' : Nat}
    (hret : ∀ (h' : Heap) (tk' : Nat), Fr h₀ L h' m → News h₀ L h' news → Q (.bool x) { s with heap := h', toks := tk' }) (F : Fr h₀ L h' m) (N : News h₀ L h' news) (e : y = x) : Q (.bool y) { s with heap := h', toks := tk' } := by
  subst e
  exact hret h' tk' F N

def ToldSays (kd : Str) (told : Int → Int → Int → Int → Int → Bool → Bool) (w : World) (mean : ExcName → Option Value) (mg mb : Str → Option Value) : Prop :=
  ∀ (dp un : Nat) (gd : Option (List Code)) (cn : Str) (cs : Scope) (a : Addr) (ccd : Value) (A₀ : Around) (base h₀ : Heap) (L : Addr) (m : Str → Option Value) (s : Shared) (Q E : Value → Shared → Prop)
    (news : List (Addr × Obj)) (fr dfr sc dsc pl : Addr) (h1 h2 h3 h4 h5 h6 g1 g2 g3 g4 g5 g6 g7 : Int) (a1 a2 a3 a4 a5 a6 b1 b2 b3 b4 b5 b6 b7 : Tok) (vp vh vw vc vd va : Value) (nf ns nl : Nat)
    (tkd tn t4 t5 t6 t7 : Tok) (nn st en hi lo : Int) (pls : List Value),
    Below A₀ base [] h₀ → (Mine.hd.heap_39 w.params).In base → Top Mine.hd.view_39 (looseW Mine.hd.view_39 []) mean mg mb base → 
    Fr h₀ L s.heap m → (Mine.hd.heap_39 w.params).In h₀ → News h₀ L s.heap news →
    Top Mine.hd.view_39 (looseW Mine.hd.view_39 []) mean mg mb h₀ → cs.kind = .function →
    (fr, instObj 158 dfr) ∈ news →
    (dfr, dictOf [⟨h1, .str (Str.ofString "kind") a1, .str kd tkd⟩, ⟨h2, .str (Str.ofString "precision") a2, vp⟩, ⟨h3, .str (Str.ofString "height") a3, vh⟩, ⟨h4, .str (Str.ofString "width") a4, vw⟩, ⟨h5, .str (Str.ofString "components") a5, vc⟩, ⟨h6, .str (Str.ofString "n") a6, .int nn tn⟩] nf) ∈ news →
    (sc, instObj 193 dsc) ∈ news →
    (dsc, dictOf [⟨g1, .str (Str.ofString "places") b1, .ref pl⟩, ⟨g2, .str (Str.ofString "dc_slots") b2, vd⟩, ⟨g3, .str (Str.ofString "ac_slots") b3, va⟩, ⟨g4, .str (Str.ofString "start") b4, .int st t4⟩, ⟨g5, .str (Str.ofString "end") b5, .int en t5⟩, ⟨g6, .str (Str.ofString "high") b6, .int hi t6⟩, ⟨g7, .str (Str.ofString "low") b7, .int lo t7⟩] ns) ∈ news →
    (pl, listOf pls.toArray nl) ∈ news →
    1 ≤ nn → nn ≤ 3 → pls.length ≤ 3 → 
    dp + 10 < recursionLimit → un + 80 < cLine →
    (∀ (h' : Heap) (tk' : Nat), Fr h₀ L h' m → News h₀ L h' news → Q (.bool (told (nn * nn - 1) st en hi lo (decide (pls.length = 1)))) { s with heap := h', toks := tk' }) →
    wpAny (model PySem.Challenge.rw_xm0818_01.row.prog w) (ktrTop dp un gd cn cs L a ccd [] []) (call (.ref 218) [.ref fr, .ref sc]) Q E s

local macro_rules | `(tactic| k_mem) => `(tactic| assumption)
local macro_rules | `(tactic| news_mem) => `(tactic| assumption)
local macro_rules | `(tactic| k_room) => `(tactic| ktr_room)
local macro_rules | `(tactic| units_room) => `(tactic| ktr_units)

set_option maxHeartbeats 8000000 in
theorem told_lossless (w : World) (mean : ExcName → Option Value) (mg mb : Str → Option Value) : ToldSays (Str.ofString "lossless") toldLl w mean mg mb := by
  unfold ToldSays
  intro dp un gd cn cs a ccd A₀ base h₀ L m s Q E news fr dfr sc dsc pl h1 h2 h3 h4 h5 h6 g1 g2 g3 g4 g5 g6 g7 a1 a2 a3 a4 a5 a6 b1 b2 b3 b4 b5 b6 b7 vp vh vw vc vd va nf ns nl tkd tn t4 t5 t6 t7 nn st en hi lo pls B XB TB F X N T hk m1 m2 m3 m4 m5 hn1 hn2 hpl hd hu hret
  refine wpAny_call ?_
  k_dflt (refine' code_defS0 ?k1 ?k2 ?k3 ?k4 ?k5 ?kA ?k6 ?k7 ?k8 ?k9 ?kB ?_ ?cK ?c2 ?c3 ?c4 ?c5; (case kA => exact rfl); (case k2 => k_asm); (case k1 => k_asm); (case k3 => k_asm); (case k4 => k_asm); (case k5 => k_asm); (case k6 => k_is); (case k7 => k_is); (case k8 => k_room); (case k9 => exact BindsTo.of_eq rfl); (case kB => exact locs rfl); (case cK => assumption); (case c2 => exact rfl); (case c3 => exact rfl); (case c4 => exact rfl); (case c5 => decide); k_whole; intro g' L' h' FG' F' N' B' X' T' D'; (try dsimp only); (try k_fold))
  k_with_none
  k_with "compareOp In str ref" => (k_here; (with_unfolding_all refine' in_tuple_strs (by exact tupK (by k_in) (by k_is)) (by kde_strs) ?_; k_whole))
  k_with "testChain int cons cons" => (k_here; k_dflt (first | refine test_link ?_ | refine test_last ?_))
  k_with "call builtin:len cons nil" => (k_here; k_dflt (refine' kst_len (by k_asm) (by assumption) (by exact rfl) (by omega) ?_; k_whole))
  k_with "Raising ref" => (refine' raising_of (by k_asm) (by k_asm) (by k_asm) ?_)
  k_with "call ref cons nil" => (k_here; k_dflt (refine' call51K _ _ _ _ (by k_asm) (by k_asm) (by k_asm) (by k_asm) (by k_asm) (by first | exact rfl | assumption) (by ktr_room) (by ktr_units) ?_; k_whole); intro e' t2' dx' h' tk' F' N' d1' d2' d3'; (try k_sweep))
  k_with "call ref nil" => (k_here; k_dflt (refine' call51K _ _ _ _ (by k_asm) (by k_asm) (by k_asm) (by k_asm) (by k_asm) (by first | exact rfl | assumption) (by ktr_room) (by ktr_units) ?_; k_whole); intro e' t2' dx' h' tk' F' N' d1' d2' d3'; (try k_sweep))
  k_with "leaving ref" => (k_here; (refine' leave_raiseX (by assumption) (by assumption) (by assumption) (by assumption) (by assumption) (by assumption) ?_; k_whole; intro h' t' S' R' U'; (try dsimp only at S' R' U' ⊢)))
  w_top off
  repeat' (first | (with_reducible refine raiseX (by with_unfolding_all exact rfl) ?_) | (k_unfold; (try dsimp only)) | (k_end; wrow_close) | walk1 | (dsimp only; walk1) | (leave1; walk_say "STEP leave1"; try dsimp only) | fail "no step")
  all_goals (refine endB hret (by k_asm) (by k_asm) ?_)
  all_goals (simp only [toldLl, decide_eq_true_eq])
  all_goals first
    | (refine (decide_eq_true ?_).symm; omega)
    | (refine (decide_eq_false ?_).symm; omega)

set_option maxHeartbeats 8000000 in
theorem told_baseline (w : World) (mean : ExcName → Option Value) (mg mb : Str → Option Value) : ToldSays (Str.ofString "baseline") toldSq w mean mg mb := by
  unfold ToldSays
  intro dp un gd cn cs a ccd A₀ base h₀ L m s Q E news fr dfr sc dsc pl h1 h2 h3 h4 h5 h6 g1 g2 g3 g4 g5 g6 g7 a1 a2 a3 a4 a5 a6 b1 b2 b3 b4 b5 b6 b7 vp vh vw vc vd va nf ns nl tkd tn t4 t5 t6 t7 nn st en hi lo pls B XB TB F X N T hk m1 m2 m3 m4 m5 hn1 hn2 hpl hd hu hret
  refine wpAny_call ?_
  k_dflt (refine' code_defS0 ?k1 ?k2 ?k3 ?k4 ?k5 ?kA ?k6 ?k7 ?k8 ?k9 ?kB ?_ ?cK ?c2 ?c3 ?c4 ?c5; (case kA => exact rfl); (case k2 => k_asm); (case k1 => k_asm); (case k3 => k_asm); (case k4 => k_asm); (case k5 => k_asm); (case k6 => k_is); (case k7 => k_is); (case k8 => k_room); (case k9 => exact BindsTo.of_eq rfl); (case kB => exact locs rfl); (case cK => assumption); (case c2 => exact rfl); (case c3 => exact rfl); (case c4 => exact rfl); (case c5 => decide); k_whole; intro g' L' h' FG' F' N' B' X' T' D'; (try dsimp only); (try k_fold))
  k_with_none
  k_with "compareOp In str ref" => (k_here; (with_unfolding_all refine' in_tuple_strs (by exact tupK (by k_in) (by k_is)) (by kde_strs) ?_; k_whole))
  k_with "testChain int cons cons" => (k_here; k_dflt (first | refine test_link ?_ | refine test_last ?_))
  k_with "call builtin:len cons nil" => (k_here; k_dflt (refine' kst_len (by k_asm) (by assumption) (by exact rfl) (by omega) ?_; k_whole))
  k_with "Raising ref" => (refine' raising_of (by k_asm) (by k_asm) (by k_asm) ?_)
  k_with "call ref cons nil" => (k_here; k_dflt (refine' call51K _ _ _ _ (by k_asm) (by k_asm) (by k_asm) (by k_asm) (by k_asm) (by first | exact rfl | assumption) (by ktr_room) (by ktr_units) ?_; k_whole); intro e' t2' dx' h' tk' F' N' d1' d2' d3'; (try k_sweep))
  k_with "call ref nil" => (k_here; k_dflt (refine' call51K _ _ _ _ (by k_asm) (by k_asm) (by k_asm) (by k_asm) (by k_asm) (by first | exact rfl | assumption) (by ktr_room) (by ktr_units) ?_; k_whole); intro e' t2' dx' h' tk' F' N' d1' d2' d3'; (try k_sweep))
  k_with "leaving ref" => (k_here; (refine' leave_raiseX (by assumption) (by assumption) (by assumption) (by assumption) (by assumption) (by assumption) ?_; k_whole; intro h' t' S' R' U'; (try dsimp only at S' R' U' ⊢)))
  w_top off
  repeat' (first | (with_reducible refine raiseX (by with_unfolding_all exact rfl) ?_) | (k_unfold; (try dsimp only)) | (k_end; wrow_close) | walk1 | (dsimp only; walk1) | (leave1; walk_say "STEP leave1"; try dsimp only) | fail "no step")
  all_goals (refine endB hret (by k_asm) (by k_asm) ?_)
  all_goals (simp only [toldSq, decide_eq_true_eq])
  all_goals first
    | (refine (decide_eq_true ?_).symm; omega)
    | (refine (decide_eq_false ?_).symm; omega)

set_option maxHeartbeats 8000000 in
theorem told_extended (w : World) (mean : ExcName → Option Value) (mg mb : Str → Option Value) : ToldSays (Str.ofString "extended") toldSq w mean mg mb := by
  unfold ToldSays
  intro dp un gd cn cs a ccd A₀ base h₀ L m s Q E news fr dfr sc dsc pl h1 h2 h3 h4 h5 h6 g1 g2 g3 g4 g5 g6 g7 a1 a2 a3 a4 a5 a6 b1 b2 b3 b4 b5 b6 b7 vp vh vw vc vd va nf ns nl tkd tn t4 t5 t6 t7 nn st en hi lo pls B XB TB F X N T hk m1 m2 m3 m4 m5 hn1 hn2 hpl hd hu hret
  refine wpAny_call ?_
  k_dflt (refine' code_defS0 ?k1 ?k2 ?k3 ?k4 ?k5 ?kA ?k6 ?k7 ?k8 ?k9 ?kB ?_ ?cK ?c2 ?c3 ?c4 ?c5; (case kA => exact rfl); (case k2 => k_asm); (case k1 => k_asm); (case k3 => k_asm); (case k4 => k_asm); (case k5 => k_asm); (case k6 => k_is); (case k7 => k_is); (case k8 => k_room); (case k9 => exact BindsTo.of_eq rfl); (case kB => exact locs rfl); (case cK => assumption); (case c2 => exact rfl); (case c3 => exact rfl); (case c4 => exact rfl); (case c5 => decide); k_whole; intro g' L' h' FG' F' N' B' X' T' D'; (try dsimp only); (try k_fold))
  k_with_none
  k_with "compareOp In str ref" => (k_here; (with_unfolding_all refine' in_tuple_strs (by exact tupK (by k_in) (by k_is)) (by kde_strs) ?_; k_whole))
  k_with "testChain int cons cons" => (k_here; k_dflt (first | refine test_link ?_ | refine test_last ?_))
  k_with "call builtin:len cons nil" => (k_here; k_dflt (refine' kst_len (by k_asm) (by assumption) (by exact rfl) (by omega) ?_; k_whole))
  k_with "Raising ref" => (refine' raising_of (by k_asm) (by k_asm) (by k_asm) ?_)
  k_with "call ref cons nil" => (k_here; k_dflt (refine' call51K _ _ _ _ (by k_asm) (by k_asm) (by k_asm) (by k_asm) (by k_asm) (by first | exact rfl | assumption) (by ktr_room) (by ktr_units) ?_; k_whole); intro e' t2' dx' h' tk' F' N' d1' d2' d3'; (try k_sweep))
  k_with "call ref nil" => (k_here; k_dflt (refine' call51K _ _ _ _ (by k_asm) (by k_asm) (by k_asm) (by k_asm) (by k_asm) (by first | exact rfl | assumption) (by ktr_room) (by ktr_units) ?_; k_whole); intro e' t2' dx' h' tk' F' N' d1' d2' d3'; (try k_sweep))
  k_with "leaving ref" => (k_here; (refine' leave_raiseX (by assumption) (by assumption) (by assumption) (by assumption) (by assumption) (by assumption) ?_; k_whole; intro h' t' S' R' U'; (try dsimp only at S' R' U' ⊢)))
  w_top off
  repeat' (first | (with_reducible refine raiseX (by with_unfolding_all exact rfl) ?_) | (k_unfold; (try dsimp only)) | (k_end; wrow_close) | walk1 | (dsimp only; walk1) | (leave1; walk_say "STEP leave1"; try dsimp only) | fail "no step")
  all_goals (refine endB hret (by k_asm) (by k_asm) ?_)
  all_goals (simp only [toldSq, decide_eq_true_eq])
  all_goals first
    | (refine (decide_eq_true ?_).symm; omega)
    | (refine (decide_eq_false ?_).symm; omega)

set_option maxHeartbeats 8000000 in
theorem told_arith (w : World) (mean : ExcName → Option Value) (mg mb : Str → Option Value) : ToldSays (Str.ofString "arith") toldSq w mean mg mb := by
  unfold ToldSays
  intro dp un gd cn cs a ccd A₀ base h₀ L m s Q E news fr dfr sc dsc pl h1 h2 h3 h4 h5 h6 g1 g2 g3 g4 g5 g6 g7 a1 a2 a3 a4 a5 a6 b1 b2 b3 b4 b5 b6 b7 vp vh vw vc vd va nf ns nl tkd tn t4 t5 t6 t7 nn st en hi lo pls B XB TB F X N T hk m1 m2 m3 m4 m5 hn1 hn2 hpl hd hu hret
  refine wpAny_call ?_
  k_dflt (refine' code_defS0 ?k1 ?k2 ?k3 ?k4 ?k5 ?kA ?k6 ?k7 ?k8 ?k9 ?kB ?_ ?cK ?c2 ?c3 ?c4 ?c5; (case kA => exact rfl); (case k2 => k_asm); (case k1 => k_asm); (case k3 => k_asm); (case k4 => k_asm); (case k5 => k_asm); (case k6 => k_is); (case k7 => k_is); (case k8 => k_room); (case k9 => exact BindsTo.of_eq rfl); (case kB => exact locs rfl); (case cK => assumption); (case c2 => exact rfl); (case c3 => exact rfl); (case c4 => exact rfl); (case c5 => decide); k_whole; intro g' L' h' FG' F' N' B' X' T' D'; (try dsimp only); (try k_fold))
  k_with_none
  k_with "compareOp In str ref" => (k_here; (with_unfolding_all refine' in_tuple_strs (by exact tupK (by k_in) (by k_is)) (by kde_strs) ?_; k_whole))
  k_with "testChain int cons cons" => (k_here; k_dflt (first | refine test_link ?_ | refine test_last ?_))
  k_with "call builtin:len cons nil" => (k_here; k_dflt (refine' kst_len (by k_asm) (by assumption) (by exact rfl) (by omega) ?_; k_whole))
  k_with "Raising ref" => (refine' raising_of (by k_asm) (by k_asm) (by k_asm) ?_)
  k_with "call ref cons nil" => (k_here; k_dflt (refine' call51K _ _ _ _ (by k_asm) (by k_asm) (by k_asm) (by k_asm) (by k_asm) (by first | exact rfl | assumption) (by ktr_room) (by ktr_units) ?_; k_whole); intro e' t2' dx' h' tk' F' N' d1' d2' d3'; (try k_sweep))
  k_with "call ref nil" => (k_here; k_dflt (refine' call51K _ _ _ _ (by k_asm) (by k_asm) (by k_asm) (by k_asm) (by k_asm) (by first | exact rfl | assumption) (by ktr_room) (by ktr_units) ?_; k_whole); intro e' t2' dx' h' tk' F' N' d1' d2' d3'; (try k_sweep))
  k_with "leaving ref" => (k_here; (refine' leave_raiseX (by assumption) (by assumption) (by assumption) (by assumption) (by assumption) (by assumption) ?_; k_whole; intro h' t' S' R' U'; (try dsimp only at S' R' U' ⊢)))
  w_top off
  repeat' (first | (with_reducible refine raiseX (by with_unfolding_all exact rfl) ?_) | (k_unfold; (try dsimp only)) | (k_end; wrow_close) | walk1 | (dsimp only; walk1) | (leave1; walk_say "STEP leave1"; try dsimp only) | fail "no step")
  all_goals (refine endB hret (by k_asm) (by k_asm) ?_)
  all_goals (simp only [toldSq, decide_eq_true_eq])
  all_goals first
    | (refine (decide_eq_true ?_).symm; omega)
    | (refine (decide_eq_false ?_).symm; omega)

set_option maxHeartbeats 8000000 in
theorem told_progressive (w : World) (mean : ExcName → Option Value) (mg mb : Str → Option Value) : ToldSays (Str.ofString "progressive") toldPr w mean mg mb := by
  unfold ToldSays
  intro dp un gd cn cs a ccd A₀ base h₀ L m s Q E news fr dfr sc dsc pl h1 h2 h3 h4 h5 h6 g1 g2 g3 g4 g5 g6 g7 a1 a2 a3 a4 a5 a6 b1 b2 b3 b4 b5 b6 b7 vp vh vw vc vd va nf ns nl tkd tn t4 t5 t6 t7 nn st en hi lo pls B XB TB F X N T hk m1 m2 m3 m4 m5 hn1 hn2 hpl hd hu hret
  refine wpAny_call ?_
  k_dflt (refine' code_defS0 ?k1 ?k2 ?k3 ?k4 ?k5 ?kA ?k6 ?k7 ?k8 ?k9 ?kB ?_ ?cK ?c2 ?c3 ?c4 ?c5; (case kA => exact rfl); (case k2 => k_asm); (case k1 => k_asm); (case k3 => k_asm); (case k4 => k_asm); (case k5 => k_asm); (case k6 => k_is); (case k7 => k_is); (case k8 => k_room); (case k9 => exact BindsTo.of_eq rfl); (case kB => exact locs rfl); (case cK => assumption); (case c2 => exact rfl); (case c3 => exact rfl); (case c4 => exact rfl); (case c5 => decide); k_whole; intro g' L' h' FG' F' N' B' X' T' D'; (try dsimp only); (try k_fold))
  k_with_none
  k_with "compareOp In str ref" => (k_here; (with_unfolding_all refine' in_tuple_strs (by exact tupK (by k_in) (by k_is)) (by kde_strs) ?_; k_whole))
  k_with "testChain int cons cons" => (k_here; k_dflt (first | refine test_link ?_ | refine test_last ?_))
  k_with "call builtin:len cons nil" => (k_here; k_dflt (refine' kst_len (by k_asm) (by assumption) (by exact rfl) (by omega) ?_; k_whole))
  k_with "Raising ref" => (refine' raising_of (by k_asm) (by k_asm) (by k_asm) ?_)
  k_with "call ref cons nil" => (k_here; k_dflt (refine' call51K _ _ _ _ (by k_asm) (by k_asm) (by k_asm) (by k_asm) (by k_asm) (by first | exact rfl | assumption) (by ktr_room) (by ktr_units) ?_; k_whole); intro e' t2' dx' h' tk' F' N' d1' d2' d3'; (try k_sweep))
  k_with "call ref nil" => (k_here; k_dflt (refine' call51K _ _ _ _ (by k_asm) (by k_asm) (by k_asm) (by k_asm) (by k_asm) (by first | exact rfl | assumption) (by ktr_room) (by ktr_units) ?_; k_whole); intro e' t2' dx' h' tk' F' N' d1' d2' d3'; (try k_sweep))
  k_with "leaving ref" => (k_here; (refine' leave_raiseX (by assumption) (by assumption) (by assumption) (by assumption) (by assumption) (by assumption) ?_; k_whole; intro h' t' S' R' U'; (try dsimp only at S' R' U' ⊢)))
  w_top off
  repeat' (first | (with_reducible refine raiseX (by with_unfolding_all exact rfl) ?_) | (k_unfold; (try dsimp only)) | (k_end; wrow_close) | walk1 | (dsimp only; walk1) | (leave1; walk_say "STEP leave1"; try dsimp only) | fail "no step")
  all_goals (refine endB hret (by k_asm) (by k_asm) ?_)
  all_goals (simp only [toldPr, decide_eq_true_eq])
  all_goals first
    | (refine (decide_eq_true ?_).symm; omega)
    | (refine (decide_eq_false ?_).symm; omega)

set_option maxHeartbeats 8000000 in
theorem told_ap (w : World) (mean : ExcName → Option Value) (mg mb : Str → Option Value) : ToldSays (Str.ofString "arith progressive") toldPr w mean mg mb := by
  unfold ToldSays
  intro dp un gd cn cs a ccd A₀ base h₀ L m s Q E news fr dfr sc dsc pl h1 h2 h3 h4 h5 h6 g1 g2 g3 g4 g5 g6 g7 a1 a2 a3 a4 a5 a6 b1 b2 b3 b4 b5 b6 b7 vp vh vw vc vd va nf ns nl tkd tn t4 t5 t6 t7 nn st en hi lo pls B XB TB F X N T hk m1 m2 m3 m4 m5 hn1 hn2 hpl hd hu hret
  refine wpAny_call ?_
  k_dflt (refine' code_defS0 ?k1 ?k2 ?k3 ?k4 ?k5 ?kA ?k6 ?k7 ?k8 ?k9 ?kB ?_ ?cK ?c2 ?c3 ?c4 ?c5; (case kA => exact rfl); (case k2 => k_asm); (case k1 => k_asm); (case k3 => k_asm); (case k4 => k_asm); (case k5 => k_asm); (case k6 => k_is); (case k7 => k_is); (case k8 => k_room); (case k9 => exact BindsTo.of_eq rfl); (case kB => exact locs rfl); (case cK => assumption); (case c2 => exact rfl); (case c3 => exact rfl); (case c4 => exact rfl); (case c5 => decide); k_whole; intro g' L' h' FG' F' N' B' X' T' D'; (try dsimp only); (try k_fold))
  k_with_none
  k_with "compareOp In str ref" => (k_here; (with_unfolding_all refine' in_tuple_strs (by exact tupK (by k_in) (by k_is)) (by kde_strs) ?_; k_whole))
  k_with "testChain int cons cons" => (k_here; k_dflt (first | refine test_link ?_ | refine test_last ?_))
  k_with "call builtin:len cons nil" => (k_here; k_dflt (refine' kst_len (by k_asm) (by assumption) (by exact rfl) (by omega) ?_; k_whole))
  k_with "Raising ref" => (refine' raising_of (by k_asm) (by k_asm) (by k_asm) ?_)
  k_with "call ref cons nil" => (k_here; k_dflt (refine' call51K _ _ _ _ (by k_asm) (by k_asm) (by k_asm) (by k_asm) (by k_asm) (by first | exact rfl | assumption) (by ktr_room) (by ktr_units) ?_; k_whole); intro e' t2' dx' h' tk' F' N' d1' d2' d3'; (try k_sweep))
  k_with "call ref nil" => (k_here; k_dflt (refine' call51K _ _ _ _ (by k_asm) (by k_asm) (by k_asm) (by k_asm) (by k_asm) (by first | exact rfl | assumption) (by ktr_room) (by ktr_units) ?_; k_whole); intro e' t2' dx' h' tk' F' N' d1' d2' d3'; (try k_sweep))
  k_with "leaving ref" => (k_here; (refine' leave_raiseX (by assumption) (by assumption) (by assumption) (by assumption) (by assumption) (by assumption) ?_; k_whole; intro h' t' S' R' U'; (try dsimp only at S' R' U' ⊢)))
  w_top off
  repeat' (first | (with_reducible refine raiseX (by with_unfolding_all exact rfl) ?_) | (k_unfold; (try dsimp only)) | (k_end; wrow_close) | walk1 | (dsimp only; walk1) | (leave1; walk_say "STEP leave1"; try dsimp only) | fail "no step")
  all_goals (refine endB hret (by k_asm) (by k_asm) ?_)
  all_goals (simp only [toldPr, decide_eq_true_eq])
  all_goals first
    | (refine (decide_eq_true ?_).symm; omega)
    | (refine (decide_eq_false ?_).symm; omega)

end Mine

-- part: Comp
namespace Mine
section
variable {prog : Program} {w : World} {A : Around} {s : Shared} {elt it0 it1 tst : PySem.Expr} {x y : Str} {px py : Pos} {scope : Scope} {pos : Pos} {it acc : Value} {env : Env} {R : Result → Shared → Prop}

abbrev comp2 (elt it0 it1 tst : PySem.Expr) (x y : Str) (px py : Pos) (scope : Scope) (pos : Pos) : PySem.Expr := .ListComp elt [⟨.Name x px, it0, [], 0⟩, ⟨.Name y py, it1, [tst], 0⟩] scope pos

theorem in_loop (J : Nat → Shared → Prop)
    (turn : ∀ n s, J n s → wpAny (model prog w) A (pyNext it) (fun r s₁ => match r with
      | none => R (.ok .next) s₁
      | some v => wpAny (model prog w) A (assign (.Name y py) env v) (fun _ s₂ =>
          wpAny (model prog w) A (isTrue tst env (eval tst env)) (fun ok s₃ =>
            if ok = true then wpAny (model prog w) A (eval elt env) (fun z s₄ =>
              wpAny (model prog w) A (call (.builtin "list.append") [acc, z]) (fun _ s₅ => ∃ m, m < n ∧ J m s₅) (notedBy (model prog w) A env fun e s' => R (.error e) s') s₄) (notedBy (model prog w) A env fun e s' => R (.error e) s') s₃
            else ∃ m, m < n ∧ J m s₃) (notedBy (model prog w) A env fun e s' => R (.error e) s') s₂) (notedBy (model prog w) A env fun e s' => R (.error e) s') s₁) (notedBy (model prog w) A env fun e s' => R (.error e) s') s)
    (n : Nat) (h : J n s) : codeAny (model prog w) A (.compLoop (comp2 elt it0 it1 tst x y px py scope pos) 1 it acc env) R s := by
  refine codeAny_loop rfl J (fun n s hI => ?_) n h
  show wpAny _ A ((compTurn (comp2 elt it0 it1 tst x y px py scope pos) 1 it acc env).onRaise (fun x => do noteFrame x env; theTreesLotGoes x)) _ _ s
  refine wpAny_noted ?_
  show wpAny _ A (standAt it1.pos >>= _) _ _ s
  refine wpAny_bind (wpAny_standAt (wpAny_bind (wpAny_mono (turn n s hI) (fun r s₁ h₁ => ?_) fun _ _ h' => h')))
  cases r with
  | none => exact wpAny_pure h₁
  | some v =>
    refine wpAny_bind (wpAny_of_eq (show letOwnedTupleGo (.Name y py) it v = pure () from rfl) ?_)
    refine wpAny_bind (wpAny_mono h₁ (fun _ s₂ h₂ => wpAny_bind (wpAny_mono (wpAny_tests_one h₂) (fun ok s₃ h₃ => ?_) fun _ _ h' => h')) fun _ _ h' => h')
    cases ok with
    | false => exact wpAny_pure ⟨rfl, h₃⟩
    | true =>
      exact wpAny_bind (wpAny_bind (wpAny_mono h₃ (fun x s₄ h₄ => wpAny_bind (wpAny_mono h₄ (fun _ s₅ h₅ => wpAny_pure (wpAny_pure ⟨rfl, h₅⟩)) fun _ _ h' => h')) fun _ _ h' => h'))

theorem out_loop (J : Nat → Shared → Prop) (hs : ∀ v, foldedSetIterable it1 env v = pure v)
    (turn : ∀ n s, J n s → wpAny (model prog w) A (pyNext it) (fun r s₁ => match r with
      | none => R (.ok .next) s₁
      | some v => wpAny (model prog w) A (assign (.Name x px) env v) (fun _ s₂ =>
          wpAny (model prog w) A (eval it1 env) (fun rv s₃ => wpAny (model prog w) A (pyIter rv) (fun iv s₄ =>
            codeAny (model prog w) A (.compStart (comp2 elt it0 it1 tst x y px py scope pos) 1 iv acc env) (fun r s₅ => match r with | .ok _ => ∃ m, m < n ∧ J m s₅ | .error _ => False) s₄)
            (notedBy (model prog w) A env fun e s' => R (.error e) s') s₃) (notedBy (model prog w) A env fun e s' => R (.error e) s') s₂) (notedBy (model prog w) A env fun e s' => R (.error e) s') s₁) (notedBy (model prog w) A env fun e s' => R (.error e) s') s)
    (n : Nat) (h : J n s) : codeAny (model prog w) A (.compLoop (comp2 elt it0 it1 tst x y px py scope pos) 0 it acc env) R s := by
  refine codeAny_loop rfl J (fun n s hI => ?_) n h
  show wpAny _ A ((compTurn (comp2 elt it0 it1 tst x y px py scope pos) 0 it acc env).onRaise (fun x => do noteFrame x env; theTreesLotGoes x)) _ _ s
  refine wpAny_noted ?_
  show wpAny _ A (standAt it0.pos >>= _) _ _ s
  refine wpAny_bind (wpAny_standAt (wpAny_bind (wpAny_mono (turn n s hI) (fun r s₁ h₁ => ?_) fun _ _ h' => h')))
  cases r with
  | none => exact wpAny_pure h₁
  | some v =>
    refine wpAny_bind (wpAny_of_eq (show letOwnedTupleGo (.Name x px) it v = pure () from rfl) ?_)
    refine wpAny_bind (wpAny_mono h₁ (fun _ s₂ h₂ => wpAny_bind (wpAny_tests_nil ?_)) fun _ _ h' => h')
    show wpAny _ A ((eval it1 env >>= _) : Sem PySem.Fin) _ _ s₂
    refine wpAny_bind (wpAny_mono h₂ (fun rv s₃ h₃ => wpAny_bind (wpAny_standAt ?_)) fun _ _ h' => h')
    refine wpAny_bind (wpAny_of_eq (hs rv) ?_)
    refine wpAny_bind (wpAny_holding (wpAny_mono h₃ (fun iv s₄ h₄ => ?_) fun _ _ h' => h'))
    refine wpAny_bind (wpAny_runOwn (codeAny_mono h₄ fun r s₅ h₅ => ?_))
    cases r with
    | ok f => exact wpAny_pure ⟨rfl, h₅⟩
    | error e => exact h₅.elim

theorem start1
    (h0 : codeAny (model prog w) A (.compLoop (comp2 elt it0 it1 tst x y px py scope pos) 1 it acc env) R s)
    (h : wpAny (model prog w) A (pyIter it) (fun it' s' => codeAny (model prog w) A (.compLoop (comp2 elt it0 it1 tst x y px py scope pos) 1 it' acc env) R s')
      (notedBy (model prog w) A env fun x s' => R (.error x) s') s) :
    codeAny (model prog w) A (.compStart (comp2 elt it0 it1 tst x y px py scope pos) 1 it acc env) R s := by
  refine codeAny_of_tree ?_
  show wpAny _ _ ((compStart (comp2 elt it0 it1 tst x y px py scope pos) 1 it acc env).onRaise (fun x => do noteFrame x env; standAt theWindowsPlace)) _ _ s
  refine wpAny_notedAt ?_
  unfold compStart
  show wpAny _ _ (ask >>= _) _ _ s
  refine wpAny_bind (wpAny_askSetting (wpAny_ite ?_))
  split
  · first
      | exact wpAny_bind (wpAny_pure (wpAny_pure (And.intro rfl h0)))
      | exact wpAny_pure (And.intro rfl h0)
  · refine wpAny_bind (wpAny_rule ?_)
    refine wpAny_bind (wpAny_standAt ?_)
    exact wpAny_bind (wpAny_mono h (fun it' s' h' => wpAny_pure ⟨rfl, h'⟩) fun _ _ x => x)
end
end Mine

-- part: CompB
namespace Mine
/-- a pair of ints that the block has made -/
structure Tup where
  T : Addr
  t1 : Tok
  t2 : Tok
  a : Int
  b : Int
def Tup.v (q : Tup) : Value := .ref q.T
def Tup.obj (q : Tup) : Obj := tupObj [.int q.a q.t1, .int q.b q.t2]
def Tup.p (q : Tup) : Int × Int := (q.a, q.b)

structure CS (H : Heap) (C D : Addr) (fix : List (Addr × Obj)) (m' : Str → Option Value) (qs : List Tup) (h : Heap) : Prop where
  keep : ∀ b o, H.get? b = some o → h.get? b = some o
  ns : h.Ns C m'
  acc : h.get? D = some (LCg.lst (qs.map Tup.v))
  tups : ∀ q ∈ qs, h.get? q.T = some q.obj ∧ H.get? q.T = none ∧ q.T ≠ C ∧ q.T ≠ D
  fixd : ∀ p ∈ fix, h.get? p.1 = some p.2 ∧ p.1 ≠ C ∧ p.1 ≠ D
  cd : C ≠ D
  hc : H.get? C = none
  hd : H.get? D = none

section
variable {H h h' : Heap} {C D I : Addr} {fix : List (Addr × Obj)} {m' m₂ : Str → Option Value} {qs : List Tup}
theorem CS.item (X : CS H C D fix m' qs h) (hk : ∀ b o, b ∉ [I] → h.get? b = some o → h'.get? b = some o) (hI : H.get? I = none) (hC : I ≠ C) (hD : I ≠ D) (hq : ∀ q ∈ qs, q.T ≠ I) (hf : ∀ p ∈ fix, p.1 ≠ I) : CS H C D fix m' qs h' := by
  have k : ∀ b o, b ≠ I → h.get? b = some o → h'.get? b = some o := fun b o n => hk b o (by simpa using n)
  refine ⟨fun b o e => k b o (fun q => ?_) (X.keep b o e), X.ns.at' fun o e => k _ o (Ne.symm hC) e, k _ _ (Ne.symm hD) X.acc, fun q hq' => ⟨k _ _ (hq q hq') (X.tups q hq').1, (X.tups q hq').2⟩, fun p hp => ⟨k _ _ (hf p hp) (X.fixd p hp).1, (X.fixd p hp).2⟩, X.cd, X.hc, X.hd⟩
  rw [q, hI] at e
  cases e
theorem CS.same (X : CS H C D fix m' qs h) (hk : ∀ b o, h.get? b = some o → h'.get? b = some o) : CS H C D fix m' qs h' :=
  ⟨fun b o e => hk b o (X.keep b o e), X.ns.at' fun o e => hk _ o e, hk _ _ X.acc, fun q hq' => ⟨hk _ _ (X.tups q hq').1, (X.tups q hq').2⟩, fun p hp => ⟨hk _ _ (X.fixd p hp).1, (X.fixd p hp).2⟩, X.cd, X.hc, X.hd⟩
theorem CS.setC (X : CS H C D fix m' qs h) (hs : Heap.SameBut C h h') (hn : h'.Ns C m₂) : CS H C D fix m₂ qs h' := by
  refine ⟨fun b o e => hs.extBut b o (fun q => ?_) (X.keep b o e), hn, hs.extBut _ _ (Ne.symm X.cd) X.acc, fun q hq' => ⟨hs.extBut _ _ (X.tups q hq').2.2.1 (X.tups q hq').1, (X.tups q hq').2⟩,
    fun p hp => ⟨hs.extBut _ _ (X.fixd p hp).2.1 (X.fixd p hp).1, (X.fixd p hp).2⟩, X.cd, X.hc, X.hd⟩
  rw [q, X.hc] at e
  cases e
theorem CS.app (X : CS H C D fix m' qs h) (q : Tup) (hs : Heap.SameBut D h h') (ha : h'.get? D = some (LCg.lst (qs.map Tup.v ++ [q.v]))) (hq : h.get? q.T = some q.obj) (hH : H.get? q.T = none) (hC : q.T ≠ C) (hD : q.T ≠ D) : CS H C D fix m' (qs ++ [q]) h' := by
  refine ⟨fun b o e => hs.extBut b o (fun z => ?_) (X.keep b o e), X.ns.sameBut hs X.cd, by rw [List.map_append]; exact ha, fun r hr => ?_,
    fun p hp => ⟨hs.extBut _ _ (X.fixd p hp).2.2 (X.fixd p hp).1, (X.fixd p hp).2⟩, X.cd, X.hc, X.hd⟩
  · rw [z, X.hd] at e
    cases e
  · rcases List.mem_append.mp hr with hr | hr
    · exact ⟨hs.extBut _ _ (X.tups r hr).2.2.2 (X.tups r hr).1, (X.tups r hr).2⟩
    · rw [List.mem_singleton.mp hr]
      exact ⟨hs.extBut _ _ hD hq, hH, hC, hD⟩
end

/-- the pairs (a, b), (a, b + 1) .., n of them -/
def row (a b : Int) (n : Nat) : List (Int × Int) := (List.range n).map fun i : Nat => (a, b + (i : Int))
theorem row_succ (a b : Int) (n : Nat) : row a b (n + 1) = row a b n ++ [(a, b + (n : Int))] := by
  unfold row
  rw [List.range_succ, List.map_append]
  rfl

section
variable {prog : Program} {w : World} {A : Around} {s : Shared} {elt it0 it1 tst : PySem.Expr} {x y : Str} {px py : Pos} {scope : Scope} {pos : Pos} {cl : List (Str × Addr)} {C D I : Addr} {env : Env} {R : Result → Shared → Prop}
  {H : Heap} {fix : List (Addr × Obj)} {m' : Str → Option Value} {qs : List Tup} {a b : Int} {ta : Tok} {n : Nat} {tb : Bool}

theorem inner (hh : A.handled = none) (hxy : x ≠ y) (hky : scope.names.lookup y = some .local) (hkind : scope.kind = .function)
    (htst : ∀ (s : Shared) (Q : Bool → Shared → Prop) (E : Value → Shared → Prop), (∀ b o, H.get? b = some o → s.heap.get? b = some o) → (∀ tk, Q tb { s with toks := tk }) → wpAny (model prog w) A (isTrue tst (compEnvC scope cl C env) (eval tst (compEnvC scope cl C env))) Q E s)
    (helt : ∀ (s : Shared) (Q : Value → Shared → Prop) (E : Value → Shared → Prop) (m' : Str → Option Value) (av bv : Value), s.heap.Ns C m' → m' x = some av → m' y = some bv → Q (.ref s.heap.objs.size) { s with heap := s.heap.push (tupObj [av, bv]) } → wpAny (model prog w) A (eval elt (compEnvC scope cl C env)) Q E s)
    (hsz : qs.length + n ≤ sizeLine)
    (hst : IsRangeIter s.heap I (b + ((0 : Nat) : Int) * 1) ((n : Int) - ((0 : Nat) : Int)) 1) (X : CS H C D fix m' qs s.heap) (hx : m' x = some (.int a ta))
    (hI : H.get? I = none) (hIC : I ≠ C) (hID : I ≠ D) (hq : ∀ q ∈ qs, q.T ≠ I) (hf : ∀ p ∈ fix, p.1 ≠ I)
    (done : ∀ (h' : Heap) (tk : Nat) (m₂ : Str → Option Value) (qs' : List Tup), CS H C D fix m₂ qs' h' → m₂ x = some (.int a ta) → qs'.length ≤ qs.length + n → qs'.map Tup.p = qs.map Tup.p ++ (if tb = true then row a b n else []) → R (.ok .next) { s with heap := h', toks := tk }) :
    codeAny (model prog w) A (.compLoop (comp2 elt it0 it1 tst x y px py scope pos) 1 (.ref I) (.ref D) (compEnvC scope cl C env)) R s := by
  have W : Walks prog w A I [I] [I] n (fun i v => ∃ t, v = .int (b + (i : Int)) t) (fun i h => IsRangeIter h I (b + (i : Nat) * 1) ((n : Int) - (i : Nat)) 1) := LCg.range_walks hh b n
  refine in_loop (fun k s' => ∃ h' tk i m₂ qs', s' = { s with heap := h', toks := tk } ∧ i ≤ n ∧ k = n + 1 - i ∧ IsRangeIter h' I (b + (i : Nat) * 1) ((n : Int) - (i : Nat)) 1 ∧ CS H C D fix m₂ qs' h' ∧ m₂ x = some (.int a ta) ∧
      (∀ q ∈ qs', q.T ≠ I) ∧ qs'.length ≤ qs.length + i ∧ qs'.map Tup.p = qs.map Tup.p ++ (if tb = true then row a b i else [])) ?_ (n + 1)
    ⟨s.heap, s.toks, 0, m', qs, rfl, Nat.zero_le _, rfl, hst, X, hx, hq, Nat.le_refl _, by cases tb <;> simp [row]⟩
  rintro k s' ⟨h₁, tk, i, m₂, qs', rfl, hi, rfl, hst', X', hx', hq', hlen, hp⟩
  by_cases hlt : i < n
  · refine W.item i _ _ _ hlt hst' fun v h₂ tk₂ hPv hst₂ hk₂ => ?_
    obtain ⟨tv, rfl⟩ := hPv
    have X₂ := X'.item hk₂ hI hIC hID hq' hf
    refine wpAny_assign_Name (wpAny_storeName_local (lookup_relabel_local hky) X₂.ns (fun h₃ hn₃ hs₃ => ?_) (by simp [compEnvC, relabel, hkind]))
    have X₃ := X₂.setC hs₃ hn₃
    have hst₃ : IsRangeIter h₃ I (b + ((i + 1 : Nat) : Int) * 1) ((n : Int) - ((i + 1 : Nat) : Int)) 1 := hs₃.extBut _ _ hIC hst₂
    refine htst _ _ _ X₃.keep fun tk₃ => ?_
    cases tb with
    | false => exact ⟨n + 1 - (i + 1), by omega, h₃, tk₃, i + 1, _, qs', rfl, hlt, rfl, hst₃, X₃, by simp [hxy, hx'], hq', by omega, hp⟩
    | true =>
      refine helt _ _ _ _ (.int a ta) (.int (b + (i : Int)) tv) X₃.ns (by simp [hxy, hx']) (by simp) ?_
      have X₄ := X₃.same (h' := h₃.push (tupObj [.int a ta, .int (b + (i : Int)) tv])) fun b o e => Heap.get?_push_of_some _ e
      refine append_at (hsz := by rw [List.size_toArray, List.length_map]; omega) X₄.acc fun h₅ hs₅ hD₅ => ?_
      have lt : ∀ {b : Addr} {o : Obj}, h₃.get? b = some o → h₃.objs.size ≠ b := fun e => Ne.symm (Nat.ne_of_lt (Heap.lt_size e))
      obtain ⟨oC, _, _, hoC, _⟩ := X₃.ns
      have hfresh : h₃.get? h₃.objs.size = none := Heap.get?_none_of_le (Nat.le_refl _)
      have X₅ := X₄.app ⟨h₃.objs.size, ta, tv, a, b + (i : Int)⟩ hs₅ (hD₅.trans (congrArg some (LCg.lst_snoc _ _)))
        (Heap.get?_push_at rfl rfl) (by
          cases e : H.get? h₃.objs.size with
          | none => rfl
          | some o => have := X₃.keep _ _ e; rw [hfresh] at this; cases this) (lt hoC) (lt X₃.acc)
      refine ⟨n + 1 - (i + 1), by omega, h₅, _, i + 1, _, _, rfl, hlt, rfl, hs₅.extBut _ _ hID (Heap.get?_push_of_some _ hst₃), X₅, by simp [hxy, hx'], fun q hq₂ => ?_, by rw [List.length_append, List.length_singleton]; omega, ?_⟩
      · rcases List.mem_append.mp hq₂ with hq₂ | hq₂
        · exact hq' q hq₂
        · rw [List.mem_singleton.mp hq₂]
          exact lt hst₃
      · rw [List.map_append, hp]
        simp only [if_true]
        rw [row_succ, List.append_assoc]
        rfl
  · obtain rfl : i = n := Nat.le_antisymm hi (Nat.not_lt.mp hlt)
    refine W.done _ _ _ hst' fun h₂ tk₂ hk₂ => ?_
    exact done h₂ tk₂ m₂ qs' (X'.item hk₂ hI hIC hID hq' hf) hx' hlen hp
end
end Mine

-- part: CompC
namespace Mine
/-- the outer clause's first i turns, the last number being k -/
def rows (k : Nat) : Nat → List (Int × Int)
  | 0 => []
  | i + 1 => rows k i ++ row (1 + (i : Int)) (1 + (i : Int)) (k - i)

abbrev rangeObj (a b : Int) (t u v : Tok) : Obj := { cls := .type "range", data := .fields #[.int a t, .int b u, .int 1 v] }

section
variable {prog : Program} {w : World} {A : Around} {s : Shared} {elt it0 it1 tst : PySem.Expr} {x y : Str} {px py : Pos} {scope : Scope} {pos : Pos} {cl : List (Str × Addr)} {C D I : Addr} {env : Env} {R : Result → Shared → Prop}
  {H : Heap} {m' : Str → Option Value} {k : Nat} {tb : Bool}

theorem CS.drop {H h : Heap} {C D : Addr} {fix : List (Addr × Obj)} {m' : Str → Option Value} {qs : List Tup} (X : CS H C D fix m' qs h) : CS H C D [] m' qs h :=
  ⟨X.keep, X.ns, X.acc, X.tups, (fun _ hp => nomatch hp), X.cd, X.hc, X.hd⟩
theorem CS.fix1 {H h : Heap} {C D I : Addr} {o : Obj} {m' : Str → Option Value} {qs : List Tup} (X : CS H C D [] m' qs h) (ho : h.get? I = some o) (hC : I ≠ C) (hD : I ≠ D) : CS H C D [(I, o)] m' qs h :=
  ⟨X.keep, X.ns, X.acc, X.tups, (fun p hp => by rw [List.mem_singleton.mp hp]; exact ⟨ho, hC, hD⟩), X.cd, X.hc, X.hd⟩

def OJ (s : Shared) (k : Nat) (I C D : Addr) (H : Heap) (tb : Bool) (j : Nat) (s' : Shared) : Prop :=
  ∃ h' tk i m₂ qs', s' = { s with heap := h', toks := tk } ∧ i ≤ k ∧ j = k + 1 - i ∧ IsRangeIter h' I (1 + (i : Nat) * 1) ((k : Int) - (i : Nat)) 1 ∧ CS H C D [] m₂ qs' h' ∧
      (∀ q ∈ qs', q.T ≠ I) ∧ qs'.length ≤ i * 8 ∧ qs'.map Tup.p = (if tb = true then rows k i else [])

theorem outer (hh : A.handled = none) (hxy : x ≠ y) (hkx : scope.names.lookup x = some .local) (hky : scope.names.lookup y = some .local) (hkind : scope.kind = .function) (hs : ∀ v, foldedSetIterable it1 (compEnvC scope cl C env) v = pure v)
    (htst : ∀ (s : Shared) (Q : Bool → Shared → Prop) (E : Value → Shared → Prop), (∀ b o, H.get? b = some o → s.heap.get? b = some o) → (∀ tk, Q tb { s with toks := tk }) → wpAny (model prog w) A (isTrue tst (compEnvC scope cl C env) (eval tst (compEnvC scope cl C env))) Q E s)
    (helt : ∀ (s : Shared) (Q : Value → Shared → Prop) (E : Value → Shared → Prop) (m' : Str → Option Value) (av bv : Value), s.heap.Ns C m' → m' x = some av → m' y = some bv → Q (.ref s.heap.objs.size) { s with heap := s.heap.push (tupObj [av, bv]) } → wpAny (model prog w) A (eval elt (compEnvC scope cl C env)) Q E s)
    (hit1 : ∀ (s : Shared) (Q : Value → Shared → Prop) (E : Value → Shared → Prop) (m' : Str → Option Value) (av : Int) (ta : Tok), (∀ b o, H.get? b = some o → s.heap.get? b = some o) → s.heap.Ns C m' → m' x = some (.int av ta) →
      (∀ tk t u v, Q (.ref s.heap.objs.size) { s with heap := s.heap.push (rangeObj av ((k : Int) + 1) t u v), toks := tk }) → wpAny (model prog w) A (eval it1 (compEnvC scope cl C env)) Q E s)
    (hk8 : k ≤ 8)
    (hst : IsRangeIter s.heap I (1 + ((0 : Nat) : Int) * 1) ((k : Int) - ((0 : Nat) : Int)) 1) (X : CS H C D [] m' [] s.heap)
    (hI : H.get? I = none) (hIC : I ≠ C) (hID : I ≠ D)
    (done : ∀ (h' : Heap) (tk : Nat) (m₂ : Str → Option Value) (qs' : List Tup), CS H C D [] m₂ qs' h' → qs'.length ≤ 64 → qs'.map Tup.p = (if tb = true then rows k k else []) → R (.ok .next) { s with heap := h', toks := tk }) :
    codeAny (model prog w) A (.compLoop (comp2 elt it0 it1 tst x y px py scope pos) 0 (.ref I) (.ref D) (compEnvC scope cl C env)) R s := by
  have W : Walks prog w A I [I] [I] k (fun i v => ∃ t, v = .int (1 + (i : Int)) t) (fun i h => IsRangeIter h I (1 + (i : Nat) * 1) ((k : Int) - (i : Nat)) 1) := LCg.range_walks hh 1 k
  refine out_loop (OJ s k I C D H tb) hs ?_ (k + 1)
    ⟨s.heap, s.toks, 0, m', [], rfl, Nat.zero_le _, rfl, hst, X, (fun _ hq => nomatch hq), Nat.zero_le _, by cases tb <;> rfl⟩
  rintro j s' ⟨h₁, tk, i, m₂, qs', rfl, hi, rfl, hst', X', hq', hlen, hp⟩
  by_cases hlt : i < k
  · refine W.item i _ _ _ hlt hst' fun v h₂ tk₂ hPv hst₂ hk₂ => ?_
    obtain ⟨tv, rfl⟩ := hPv
    have X₂ := X'.item hk₂ hI hIC hID hq' (fun _ hp => nomatch hp)
    refine wpAny_assign_Name (wpAny_storeName_local (lookup_relabel_local hkx) X₂.ns (fun h₃ hn₃ hs₃ => ?_) (by simp [compEnvC, relabel, hkind]))
    have X₃ := X₂.setC hs₃ hn₃
    have hst₃ : IsRangeIter h₃ I (1 + ((i + 1 : Nat) : Int) * 1) ((k : Int) - ((i + 1 : Nat) : Int)) 1 := hs₃.extBut _ _ hIC hst₂
    refine hit1 _ _ _ _ (1 + (i : Int)) tv X₃.keep X₃.ns (by simp) fun tk₄ t u v => ?_
    have X₄ := X₃.same (h' := h₃.push (rangeObj (1 + (i : Int)) ((k : Int) + 1) t u v)) fun b o e => Heap.get?_push_of_some _ e
    have hst₄ : IsRangeIter (h₃.push (rangeObj (1 + (i : Int)) ((k : Int) + 1) t u v)) I (1 + ((i + 1 : Nat) : Int) * 1) ((k : Int) - ((i + 1 : Nat) : Int)) 1 := Heap.get?_push_of_some _ hst₃
    have hn : Builtin.Range.rangeSize (1 + (i : Int)) ((k : Int) + 1) 1 = ((k - i : Nat) : Int) := by
      rw [rangeSize_one, if_pos (by omega)]
      omega
    refine wpAny_pyIter_range (IsRange.new _ _ _ _ _ _ _) (small_one (by omega) (by omega) (by omega) (by omega)) ?_
    generalize hG : h₃.push (rangeObj (1 + (i : Int)) ((k : Int) + 1) t u v) = G at X₄ hst₄ ⊢
    dsimp only
    have X₅ := X₄.same (h' := G.push { cls := .type "range_iterator", data := .fields #[rawInt (1 + (i : Int)), rawInt (Builtin.Range.rangeSize (1 + (i : Int)) ((k : Int) + 1) 1), rawInt 1] }) fun b o e => Heap.get?_push_of_some _ e
    have hst₅ := Heap.get?_push_of_some { cls := .type "range_iterator", data := .fields #[rawInt (1 + (i : Int)), rawInt (Builtin.Range.rangeSize (1 + (i : Int)) ((k : Int) + 1) 1), rawInt 1] } hst₄
    have hit : IsRangeIter (G.push { cls := .type "range_iterator", data := .fields #[rawInt (1 + (i : Int)), rawInt (Builtin.Range.rangeSize (1 + (i : Int)) ((k : Int) + 1) 1), rawInt 1] }) G.objs.size ((1 + (i : Int)) + ((0 : Nat) : Int) * 1) (((k - i : Nat) : Int) - ((0 : Nat) : Int)) 1 := by
      have z := Heap.get?_push_size G (o := { cls := .type "range_iterator", data := .fields #[rawInt (1 + (i : Int)), rawInt (Builtin.Range.rangeSize (1 + (i : Int)) ((k : Int) + 1) 1), rawInt 1] }) rfl
      show _ = _
      rw [z, hn]
      simp
    have lt : ∀ {b : Addr} {o : Obj}, G.get? b = some o → G.objs.size ≠ b := fun e => Ne.symm (Nat.ne_of_lt (Heap.lt_size e))
    obtain ⟨oC, _, _, hoC, _⟩ := X₄.ns
    have hfresh : G.get? G.objs.size = none := Heap.get?_none_of_le (Nat.le_refl _)
    have hH : H.get? G.objs.size = none := by
      cases e : H.get? G.objs.size with
      | none => rfl
      | some o => have := X₄.keep _ _ e; rw [hfresh] at this; cases this
    have main : codeAny (model prog w) A (.compLoop (comp2 elt it0 it1 tst x y px py scope pos) 1 (.ref G.objs.size) (.ref D) (compEnvC scope cl C env)) (fun r s₅ => (match r with | .ok _ => ∃ m, m < k + 1 - i ∧ OJ s k I C D H tb m s₅ | .error _ => False : Prop))
        { s with heap := G.push { cls := .type "range_iterator", data := .fields #[rawInt (1 + (i : Int)), rawInt (Builtin.Range.rangeSize (1 + (i : Int)) ((k : Int) + 1) 1), rawInt 1] }, toks := tk₄ } := by
      refine inner hh hxy hky hkind htst helt (a := 1 + (i : Int)) (ta := tv) (n := k - i) (by rw [sizeLine_eq]; omega) hit (X₅.fix1 hst₅ hIC hID) (by simp) hH (lt hoC) (lt X₄.acc) (fun q hq => Ne.symm (lt (X₄.tups q hq).1)) (fun p hp => by rw [List.mem_singleton.mp hp]; exact Ne.symm (lt hst₄))
        fun h' tk' m₃ qs₃ X₆ _ hl₆ hp₆ => ?_
      refine ⟨k + 1 - (i + 1), by omega, h', tk', i + 1, m₃, qs₃, rfl, hlt, rfl, ?_, X₆.drop, fun q hq => ?_, by omega, ?_⟩
      · exact (X₆.fixd _ (.head _)).1
      · intro z
        have z₁ := (X₆.tups q hq).1
        rw [z, (X₆.fixd _ (.head _)).1] at z₁
        have z₂ := congrArg Obj.cls (Option.some.inj z₁)
        exact absurd (Value.type.inj z₂) (by decide)
      · rw [hp₆, hp]
        cases tb <;> rfl
    exact start1 main (wpAny_pyIter_rangeiter hit main)
  · obtain rfl : i = k := Nat.le_antisymm hi (Nat.not_lt.mp hlt)
    refine W.done _ _ _ hst' fun h₂ tk₂ hk₂ => ?_
    exact done h₂ tk₂ m₂ qs' (X'.item hk₂ hI hIC hID hq' (fun _ hp => nomatch hp)) (by omega) hp
end
end Mine

-- part: CompD
namespace Mine
theorem newsAll {h₀ h h' : Heap} {L : Addr} {news : List (Addr × Obj)} (N : News h₀ L h news) (k : ∀ b o, h.get? b = some o → h'.get? b = some o) : News h₀ L h' news := fun p hp => ⟨k _ _ (N p hp).1, (N p hp).2⟩
def Tup.e (q : Tup) : Addr × Obj := (q.T, q.obj)
section
variable {prog : Program} {w : World} {A : Around} {scope : Scope} {cl : List (Str × Addr)} {C : Addr} {env : Env} {x y ym yl : Str} {p1 p2 p3 p4 p5 p6 pos : Pos} {k1 k2 k3 : Nat} {H h₀ : Heap} {L cm : Addr} {om : Obj} {mv : Int} {tm : Tok} {m : Str → Option Value} {news : List (Addr × Obj)}
  {mean : ExcName → Option Value} {mg mb : Str → Option Value}

theorem tst_ok (N : News h₀ L H news) (hc : cl.lookup ym = some cm) (hm : (cm, om) ∈ news) (hd : om.data = .cell (some (.int mv tm)))
    (hk : (compEnvC scope cl C env).scope.kind = .function) (hx : (compEnvC scope cl C env).kindOf ym = some .cell) (hb : (ym == ("__debug__" : Str)) = false) :
    ∀ (s : Shared) (Q : Bool → Shared → Prop) (E : Value → Shared → Prop), (∀ b o, H.get? b = some o → s.heap.get? b = some o) → (∀ tk, Q (mv == 1) { s with toks := tk }) →
      wpAny (model prog w) A (isTrue (.Compare (.Name ym p1) [.Eq] [.Constant (.int 1) k2 p2] p3) (compEnvC scope cl C env) (eval (.Compare (.Name ym p1) [.Eq] [.Constant (.int 1) k2 p2] p3) (compEnvC scope cl C env))) Q E s := by
  intro s Q E K h
  refine wpAny_isTrue_Compare1 (lcf_cell (newsAll N K) hc hm hd ?_ hk hx hb) rfl
  exact wpAny_Constant_int (eq_int (wpAny_truthy_bool (h _)))

theorem elt_ok (hk : (compEnvC scope cl C env).scope.kind = .function) (hx : (compEnvC scope cl C env).kindOf x = some .local) (hy : (compEnvC scope cl C env).kindOf y = some .local) (hdx : (x == ("__debug__" : Str)) = false) (hdy : (y == ("__debug__" : Str)) = false) :
    ∀ (s : Shared) (Q : Value → Shared → Prop) (E : Value → Shared → Prop) (m' : Str → Option Value) (av bv : Value), s.heap.Ns C m' → m' x = some av → m' y = some bv → Q (.ref s.heap.objs.size) { s with heap := s.heap.push (tupObj [av, bv]) } →
      wpAny (model prog w) A (eval (.Tuple [.Name x p1, .Name y p2] k1 p3) (compEnvC scope cl C env)) Q E s := by
  intro s Q E m' av bv hn h1 h2 h
  exact wpAny_Tuple (spliced_more (ldVarK hn h1 (spliced_more (ldVarK hn h2 (spliced_none ⟨by rw [sizeLine_eq]; show 2 ≤ 16777216; decide, h⟩) hk hy hdy)) hk hx hdx))

theorem it1_ok {k : Nat} (F : Fr h₀ L H m) (N : News h₀ L H news) (X : (Mine.hd.heap_39 w.params).In h₀) (T : Top Mine.hd.view_39 (looseW Mine.hd.view_39 []) mean mg mb h₀) (hc : cl.lookup yl = some cm) (hm : (cm, om) ∈ news) (hd : om.data = .cell (some (.int (k : Int) tm)))
    (hg : env.globals = mainGlobals) (hbi : env.builtins = builtinsNs)
    (hk : (compEnvC scope cl C env).scope.kind = .function) (hx : (compEnvC scope cl C env).kindOf x = some .local) (hl : (compEnvC scope cl C env).kindOf yl = some .cell) (hr : (compEnvC scope cl C env).kindOf (Str.ofString "range") = some .globalImplicit) (hdx : (x == ("__debug__" : Str)) = false) (hdl : (yl == ("__debug__" : Str)) = false) :
    ∀ (s : Shared) (Q : Value → Shared → Prop) (E : Value → Shared → Prop) (m' : Str → Option Value) (av : Int) (ta : Tok), (∀ b o, H.get? b = some o → s.heap.get? b = some o) → s.heap.Ns C m' → m' x = some (.int av ta) →
      (∀ tk t u v, Q (.ref s.heap.objs.size) { s with heap := s.heap.push (rangeObj av ((k : Int) + 1) t u v), toks := tk }) →
      wpAny (model prog w) A (eval (.Call (.Name (Str.ofString "range") p1) [.Name x p2, .BinOp (.Name yl p3) .Add (.Constant (.int 1) k2 p4) p5] [] pos) (compEnvC scope cl C env)) Q E s := by
  intro s Q E m' av ta K hn h1 h
  refine Call_Name rfl (LCgL.ld_built (F.after K) X T (by k_is) (by boot_by_name) (by decide) ?_ hg hbi hk hr (by decide))
  refine PyProof.Rows.callWith_type1 (spliced_more (ldVarK hn h1 (spliced_more (wpAny_BinOp (lcf_cell (newsAll N K) hc hm hd (wpAny_Constant_int (add_int (spliced_none ?_))) hk hl hdl))) hk hx hdx))
  exact call_range_2 (h _ _ _ _)
end
end Mine

-- part: CompE
namespace Mine
section
variable {prog : Program} {w : World} {A : Around} {E : Value → Shared → Prop} {s : Shared} {elt it0 it1 tst : PySem.Expr} {x y : Str} {px py : Pos} {scope : Scope} {pos : Pos} {cl : List (Str × Addr)} {env : Env} {h₀ : Heap} {L : Addr} {m : Str → Option Value}

def CompAt (prog : Program) (w : World) (A : Around) (h₀ : Heap) (L : Addr) (m : Str → Option Value) (env : Env) (elt it1 tst : PySem.Expr) (x y : Str) (scope : Scope) (cl : List (Str × Addr)) (Q : Value → Shared → Prop) (xv : Value) (s₁ : Shared) : Prop :=
  ∃ r k t u v tb news, xv = .ref r ∧ k ≤ 8 ∧ A.handled = none ∧ IsRange s₁.heap r 1 ((k : Nat) + 1 : Int) 1 t u v ∧ Fr h₀ L s₁.heap m ∧ News h₀ L s₁.heap news ∧
    (∀ C, ∀ (s : Shared) (Q : Bool → Shared → Prop) (E : Value → Shared → Prop), (∀ b o, s₁.heap.get? b = some o → s.heap.get? b = some o) → (∀ tk, Q tb { s with toks := tk }) → wpAny (model prog w) A (isTrue tst (compEnvC scope cl C env) (eval tst (compEnvC scope cl C env))) Q E s) ∧
    (∀ C, ∀ (s : Shared) (Q : Value → Shared → Prop) (E : Value → Shared → Prop) (m' : Str → Option Value) (av bv : Value), s.heap.Ns C m' → m' x = some av → m' y = some bv → Q (.ref s.heap.objs.size) { s with heap := s.heap.push (tupObj [av, bv]) } → wpAny (model prog w) A (eval elt (compEnvC scope cl C env)) Q E s) ∧
    (∀ C, ∀ (s : Shared) (Q : Value → Shared → Prop) (E : Value → Shared → Prop) (m' : Str → Option Value) (av : Int) (ta : Tok), (∀ b o, s₁.heap.get? b = some o → s.heap.get? b = some o) → s.heap.Ns C m' → m' x = some (.int av ta) →
      (∀ tk t u v, Q (.ref s.heap.objs.size) { s with heap := s.heap.push (rangeObj av ((k : Int) + 1) t u v), toks := tk }) → wpAny (model prog w) A (eval it1 (compEnvC scope cl C env)) Q E s) ∧
    (∀ D h' tk (qs : List Tup), Fr h₀ L h' m → News h₀ L h' ((D, LCg.lst (qs.map Tup.v)) :: (qs.map Tup.e ++ news)) → qs.length ≤ 64 → qs.map Tup.p = (if tb = true then rows k k else []) → Q (.ref D) { s₁ with heap := h', toks := tk })

theorem comp_all {Q : Value → Shared → Prop} (F₀' : Fr h₀ L s.heap m) (hclos : closureFor scope env = pure cl) (hcell : ∀ y ∈ scope.names, y.2 ≠ .cell) (hkind : scope.kind = .function)
    (hnames : ∀ y ∈ scope.names, y.2 = .local → scope.names.lookup y.1 = some .local) (hkx : scope.names.lookup x = some .local) (hky : scope.names.lookup y = some .local) (hxy : x ≠ y)
    (h : wpAny (model prog w) A (eval it0 env) (CompAt prog w A h₀ L m env elt it1 tst x y scope cl Q) E s)
    (hs0 : ∀ v, foldedSetIterable it0 env v = pure v := by intro _; rfl) (hs1 : ∀ C v, foldedSetIterable it1 (compEnvC scope cl C env) v = pure v := by intro _ _; rfl) :
    wpAny (model prog w) A (eval (comp2 elt it0 it1 tst x y px py scope pos) env) Q E s := by
  rw [eval_ListComp]
  refine wpAny_comprehension_free (use := none) rfl hs0 hclos hkind hnames (wpAny_mono h (fun xv s₁ h₁ => ?_) fun _ _ e => e)
  obtain ⟨r, k, t, u, v, tb, news, rfl, hk8, hh, hr, F, N, htst, helt, hit1, fin⟩ := h₁
  have hn : Builtin.Range.rangeSize 1 ((k : Int) + 1) 1 = (k : Int) := by
    rw [rangeSize_one]
    split <;> omega
  refine wpAny_pyIter_range hr (small_one (by omega) (by omega) (by omega) (by omega)) ?_
  rw [hn]
  generalize hG : s₁.heap.push { cls := .type "range_iterator", data := .fields #[rawInt 1, rawInt (k : Int), rawInt 1] } = G
  have kG : ∀ b o, s₁.heap.get? b = some o → G.get? b = some o := fun b o e => hG ▸ Heap.get?_push_of_some _ e
  have hIG : G.get? s₁.heap.objs.size = some { cls := .type "range_iterator", data := .fields #[rawInt 1, rawInt (k : Int), rawInt 1] } := hG ▸ Heap.get?_push_size s₁.heap rfl
  have hfI : s₁.heap.get? s₁.heap.objs.size = none := Heap.get?_none_of_le (Nat.le_refl _)
  refine wpAny_newObj_type (wpAny_newFunctionEnv hcell (by intro y hy; simp at hy) (fun h₁ hns₁ hsb₁ => ?_) hkind)
  dsimp only at hns₁ hsb₁ ⊢
  generalize hH2 : G.push { cls := .type "list", dict := none, data := .seq ([] : List Value).toArray } = H2 at hns₁ hsb₁ ⊢
  have kH : ∀ b o, G.get? b = some o → H2.get? b = some o := fun b o e => hH2 ▸ Heap.get?_push_of_some _ e
  have hDH : H2.get? G.objs.size = some (LCg.lst []) := hH2 ▸ Heap.get?_push_size G rfl
  have hC : H2.objs.size = G.objs.size + 1 := by rw [← hH2, Heap.size_push]
  have lt : ∀ {b : Addr} {o : Obj}, H2.get? b = some o → b ≠ H2.objs.size := fun e => Nat.ne_of_lt (Heap.lt_size e)
  have kh : ∀ b o, H2.get? b = some o → h₁.get? b = some o := fun b o e => hsb₁.extBut b o (lt e) (Heap.get?_push_of_some _ e)
  have kS : ∀ b o, s₁.heap.get? b = some o → h₁.get? b = some o := fun b o e => kh b o (kH b o (kG b o e))
  have fresh : ∀ {b : Addr}, h₁.get? b = none → s₁.heap.get? b = none := fun {b} e => by
    cases q : s₁.heap.get? b with
    | none => rfl
    | some o => rw [kS _ _ q] at e; cases e
  have hD0 : s₁.heap.get? G.objs.size = none := by
    cases q : s₁.heap.get? G.objs.size with
    | none => rfl
    | some o => exact absurd (Heap.lt_size (kG _ _ q)) (Nat.lt_irrefl _)
  have hC0 : s₁.heap.get? H2.objs.size = none := by
    cases q : s₁.heap.get? H2.objs.size with
    | none => rfl
    | some o => exact absurd (Heap.lt_size (kH _ _ (kG _ _ q))) (Nat.lt_irrefl _)
  have hCD : H2.objs.size ≠ G.objs.size := by rw [hC]; exact Nat.succ_ne_self _
  have hIC : s₁.heap.objs.size ≠ H2.objs.size := lt (kH _ _ hIG)
  have hID : s₁.heap.objs.size ≠ G.objs.size := Nat.ne_of_lt (Heap.lt_size hIG)
  have X : CS s₁.heap H2.objs.size G.objs.size [] (fun x => ([] : List (Str × Value)).reverse.lookup x) [] h₁ :=
    ⟨kS, hns₁, kh _ _ hDH, (fun _ hq => nomatch hq), (fun _ hp => nomatch hp), hCD, hC0, hD0⟩
  have hst : IsRangeIter h₁ s₁.heap.objs.size (1 + ((0 : Nat) : Int) * 1) ((k : Int) - ((0 : Nat) : Int)) 1 := by
    have z := kh _ _ (kH _ _ hIG)
    show _ = _
    rw [z]
    simp
  have hLne : L ≠ H2.objs.size := by
    obtain ⟨o, _, _, ho, _⟩ := F.ns
    exact lt (kH _ _ (kG _ _ ho))
  have hLD : L ≠ G.objs.size := by
    obtain ⟨o, _, _, ho, _⟩ := F.ns
    exact Nat.ne_of_lt (Heap.lt_size (kG _ _ ho))
  have h0 : ∀ {b : Addr}, s₁.heap.get? b = none → h₀.get? b = none := fun {b} e => by
    cases q : h₀.get? b with
    | none => rfl
    | some o => rw [F.keep _ _ q] at e; cases e
  have loop : ∀ s₃ : Shared, s₃ = { s₁ with heap := h₁, toks := s₁.toks + ([] : List (Str × Value)).length } →
      codeAny (model prog w) A (.compLoop (comp2 elt it0 it1 tst x y px py scope pos) 0 (.ref s₁.heap.objs.size) (.ref G.objs.size) (compEnvC scope cl H2.objs.size env))
        (compPost (model prog w) A E none Q (.ref G.objs.size) H2.objs.size) s₃ := by
    rintro s₃ rfl
    refine outer hh hxy hkx hky hkind (hs1 _) (htst _) (helt _) (hit1 _) hk8 hst X hfI hIC hID fun h' tk m₂ qs X' hl hp => ?_
    refine ⟨m₂, X'.ns, fun h'' hs'' => ?_⟩
    have k2 : ∀ b o, s₁.heap.get? b = some o → h''.get? b = some o := fun b o e => hs''.extBut b o (fun q => by rw [q, hC0] at e; cases e) (X'.keep b o e)
    refine fin G.objs.size h'' tk qs (F.after k2) (newsCons (hs''.extBut _ _ (Ne.symm hCD) X'.acc) (Ne.symm hLD) (h0 hD0) fun p hp => ?_) hl hp
    rcases List.mem_append.mp hp with hp | hp
    · obtain ⟨q, hq, rfl⟩ := List.mem_map.mp hp
      have z := X'.tups q hq
      refine ⟨hs''.extBut _ _ z.2.2.1 z.1, fun e => ?_, h0 z.2.1⟩
      obtain ⟨o, _, _, ho, _⟩ := F.ns
      have z1 := z.2.1
      rw [show q.T = L from e, ho] at z1
      cases z1
    · exact newsAll N k2 p hp
  exact codeAny_compStart_list (loop _ rfl) (wpAny_pyIter_rangeiter hst (loop _ rfl))
end
end Mine

-- part: CompF
namespace Mine
section
variable {prog : Program} {w : World} {A : Around} {E : Value → Shared → Prop} {s : Shared} {elt it0 : PySem.Expr} {x : Str} {px : Pos} {scope : Scope} {pos : Pos} {cl : List (Str × Addr)} {env : Env} {h₀ : Heap} {L : Addr} {m : Str → Option Value} {fa fb : Int → Int}

def col (fa fb : Int → Int) (n : Nat) : List (Int × Int) := (List.range n).map fun i : Nat => (fa (i : Int), fb (i : Int))
theorem col_succ (fa fb : Int → Int) (n : Nat) : col fa fb (n + 1) = col fa fb n ++ [(fa (n : Int), fb (n : Int))] := by
  unfold col
  rw [List.range_succ, List.map_append]
  rfl

abbrev comp1 (elt it0 : PySem.Expr) (x : Str) (px : Pos) (scope : Scope) (pos : Pos) : PySem.Expr := .ListComp elt [⟨.Name x px, it0, [], 0⟩] scope pos

theorem single {R : Result → Shared → Prop} {H : Heap} {C D I : Addr} {m' : Str → Option Value} {n : Nat} (hh : A.handled = none) (hkx : scope.names.lookup x = some .local) (hkind : scope.kind = .function)
    (helt : ∀ (s : Shared) (Q : Value → Shared → Prop) (E : Value → Shared → Prop) (m' : Str → Option Value) (i : Int) (t : Tok), s.heap.Ns C m' → m' x = some (.int i t) → (∀ tk t1 t2, Q (.ref s.heap.objs.size) { s with heap := s.heap.push (tupObj [.int (fa i) t1, .int (fb i) t2]), toks := tk }) → wpAny (model prog w) A (eval elt (compEnvC scope cl C env)) Q E s)
    (hsz : n ≤ 64)
    (hst : IsRangeIter s.heap I (0 + ((0 : Nat) : Int) * 1) ((n : Int) - ((0 : Nat) : Int)) 1) (X : CS H C D [] m' [] s.heap)
    (hI : H.get? I = none) (hIC : I ≠ C) (hID : I ≠ D)
    (done : ∀ (h' : Heap) (tk : Nat) (m₂ : Str → Option Value) (qs' : List Tup), CS H C D [] m₂ qs' h' → qs'.length ≤ 64 → qs'.map Tup.p = col fa fb n → R (.ok .next) { s with heap := h', toks := tk }) :
    codeAny (model prog w) A (.compLoop (comp1 elt it0 x px scope pos) 0 (.ref I) (.ref D) (compEnvC scope cl C env)) R s := by
  have W : Walks prog w A I [I] [I] n (fun i v => ∃ t, v = .int (0 + (i : Int)) t) (fun i h => IsRangeIter h I (0 + (i : Nat) * 1) ((n : Int) - (i : Nat)) 1) := LCg.range_walks hh 0 n
  refine codeAny_compLoop_tests (fun k s' => ∃ h' tk i m₂ qs', s' = { s with heap := h', toks := tk } ∧ i ≤ n ∧ k = n + 1 - i ∧ IsRangeIter h' I (0 + (i : Nat) * 1) ((n : Int) - (i : Nat)) 1 ∧ CS H C D [] m₂ qs' h' ∧
      (∀ q ∈ qs', q.T ≠ I) ∧ qs'.length ≤ i ∧ qs'.map Tup.p = col fa fb i) ?_ (n + 1)
    ⟨s.heap, s.toks, 0, m', [], rfl, Nat.zero_le _, rfl, hst, X, (fun _ hq => nomatch hq), Nat.le_refl _, rfl⟩
  rintro k s' ⟨h₁, tk, i, m₂, qs', rfl, hi, rfl, hst', X', hq', hlen, hp⟩
  by_cases hlt : i < n
  · refine W.item i _ _ _ hlt hst' fun v h₂ tk₂ hPv hst₂ hk₂ => ?_
    obtain ⟨tv, rfl⟩ := hPv
    have X₂ := X'.item hk₂ hI hIC hID hq' (fun _ hp => nomatch hp)
    refine wpAny_assign_Name (wpAny_storeName_local (lookup_relabel_local hkx) X₂.ns (fun h₃ hn₃ hs₃ => ?_) (by simp [compEnvC, relabel, hkind]))
    have X₃ := X₂.setC hs₃ hn₃
    have hst₃ : IsRangeIter h₃ I (0 + ((i + 1 : Nat) : Int) * 1) ((n : Int) - ((i + 1 : Nat) : Int)) 1 := hs₃.extBut _ _ hIC hst₂
    refine wpAny_tests_nil ?_
    simp only [if_true]
    refine helt _ _ _ _ (0 + (i : Int)) tv X₃.ns (by simp) fun tk₄ t1 t2 => ?_
    have X₄ := X₃.same (h' := h₃.push (tupObj [.int (fa (0 + (i : Int))) t1, .int (fb (0 + (i : Int))) t2])) fun b o e => Heap.get?_push_of_some _ e
    refine append_at (hsz := by rw [List.size_toArray, List.length_map, sizeLine_eq]; omega) X₄.acc fun h₅ hs₅ hD₅ => ?_
    have lt : ∀ {b : Addr} {o : Obj}, h₃.get? b = some o → h₃.objs.size ≠ b := fun e => Ne.symm (Nat.ne_of_lt (Heap.lt_size e))
    obtain ⟨oC, _, _, hoC, _⟩ := X₃.ns
    have hfresh : h₃.get? h₃.objs.size = none := Heap.get?_none_of_le (Nat.le_refl _)
    have X₅ := X₄.app ⟨h₃.objs.size, t1, t2, fa (0 + (i : Int)), fb (0 + (i : Int))⟩ hs₅ (hD₅.trans (congrArg some (LCg.lst_snoc _ _)))
      (Heap.get?_push_at rfl rfl) (by
        cases e : H.get? h₃.objs.size with
        | none => rfl
        | some o => have := X₃.keep _ _ e; rw [hfresh] at this; cases this) (lt hoC) (lt X₃.acc)
    refine ⟨n + 1 - (i + 1), by omega, h₅, _, i + 1, _, _, rfl, hlt, rfl, hs₅.extBut _ _ hID (Heap.get?_push_of_some _ hst₃), X₅, fun q hq₂ => ?_, by rw [List.length_append, List.length_singleton]; omega, ?_⟩
    · rcases List.mem_append.mp hq₂ with hq₂ | hq₂
      · exact hq' q hq₂
      · rw [List.mem_singleton.mp hq₂]
        exact lt hst₃
    · rw [List.map_append, hp, col_succ]
      simp [Tup.p]
  · obtain rfl : i = n := Nat.le_antisymm hi (Nat.not_lt.mp hlt)
    refine W.done _ _ _ hst' fun h₂ tk₂ hk₂ => ?_
    exact done h₂ tk₂ m₂ qs' (X'.item hk₂ hI hIC hID hq' (fun _ hp => nomatch hp)) (by omega) hp

def CompAt1 (A : Around) (h₀ : Heap) (L : Addr) (m : Str → Option Value) (fa fb : Int → Int) (Q : Value → Shared → Prop) (xv : Value) (s₁ : Shared) : Prop :=
  ∃ r n t u v news, xv = .ref r ∧ n ≤ 64 ∧ A.handled = none ∧ IsRange s₁.heap r 0 ((n : Nat) : Int) 1 t u v ∧ Fr h₀ L s₁.heap m ∧ News h₀ L s₁.heap news ∧
    (∀ D h' tk (qs : List Tup), Fr h₀ L h' m → News h₀ L h' ((D, LCg.lst (qs.map Tup.v)) :: (qs.map Tup.e ++ news)) → qs.length ≤ 64 → qs.map Tup.p = col fa fb n → Q (.ref D) { s₁ with heap := h', toks := tk })

theorem comp_one {Q : Value → Shared → Prop} (F₀' : Fr h₀ L s.heap m) (hclos : closureFor scope env = pure cl) (hcell : ∀ y ∈ scope.names, y.2 ≠ .cell) (hkind : scope.kind = .function)
    (hnames : ∀ y ∈ scope.names, y.2 = .local → scope.names.lookup y.1 = some .local) (hkx : scope.names.lookup x = some .local)
    (helt : ∀ C, ∀ (s : Shared) (Q : Value → Shared → Prop) (E : Value → Shared → Prop) (m' : Str → Option Value) (i : Int) (t : Tok), s.heap.Ns C m' → m' x = some (.int i t) → (∀ tk t1 t2, Q (.ref s.heap.objs.size) { s with heap := s.heap.push (tupObj [.int (fa i) t1, .int (fb i) t2]), toks := tk }) → wpAny (model prog w) A (eval elt (compEnvC scope cl C env)) Q E s)
    (h : wpAny (model prog w) A (eval it0 env) (CompAt1 A h₀ L m fa fb Q) E s)
    (hs0 : ∀ v, foldedSetIterable it0 env v = pure v := by intro _; rfl) :
    wpAny (model prog w) A (eval (comp1 elt it0 x px scope pos) env) Q E s := by
  rw [eval_ListComp]
  refine wpAny_comprehension_free (use := none) rfl hs0 hclos hkind hnames (wpAny_mono h (fun xv s₁ h₁ => ?_) fun _ _ e => e)
  obtain ⟨r, k, t, u, v, news, rfl, hk8, hh, hr, F, N, fin⟩ := h₁
  have hn : Builtin.Range.rangeSize 0 (k : Int) 1 = (k : Int) := by
    rw [rangeSize_one]
    split <;> omega
  refine wpAny_pyIter_range hr (small_one (by omega) (by omega) (by omega) (by omega)) ?_
  rw [hn]
  generalize hG : s₁.heap.push { cls := .type "range_iterator", data := .fields #[rawInt 0, rawInt (k : Int), rawInt 1] } = G
  have kG : ∀ b o, s₁.heap.get? b = some o → G.get? b = some o := fun b o e => hG ▸ Heap.get?_push_of_some _ e
  have hIG : G.get? s₁.heap.objs.size = some { cls := .type "range_iterator", data := .fields #[rawInt 0, rawInt (k : Int), rawInt 1] } := hG ▸ Heap.get?_push_size s₁.heap rfl
  have hfI : s₁.heap.get? s₁.heap.objs.size = none := Heap.get?_none_of_le (Nat.le_refl _)
  refine wpAny_newObj_type (wpAny_newFunctionEnv hcell (by intro y hy; simp at hy) (fun h₁ hns₁ hsb₁ => ?_) hkind)
  dsimp only at hns₁ hsb₁ ⊢
  generalize hH2 : G.push { cls := .type "list", dict := none, data := .seq ([] : List Value).toArray } = H2 at hns₁ hsb₁ ⊢
  have kH : ∀ b o, G.get? b = some o → H2.get? b = some o := fun b o e => hH2 ▸ Heap.get?_push_of_some _ e
  have hDH : H2.get? G.objs.size = some (LCg.lst []) := hH2 ▸ Heap.get?_push_size G rfl
  have hC : H2.objs.size = G.objs.size + 1 := by rw [← hH2, Heap.size_push]
  have lt : ∀ {b : Addr} {o : Obj}, H2.get? b = some o → b ≠ H2.objs.size := fun e => Nat.ne_of_lt (Heap.lt_size e)
  have kh : ∀ b o, H2.get? b = some o → h₁.get? b = some o := fun b o e => hsb₁.extBut b o (lt e) (Heap.get?_push_of_some _ e)
  have kS : ∀ b o, s₁.heap.get? b = some o → h₁.get? b = some o := fun b o e => kh b o (kH b o (kG b o e))
  have hD0 : s₁.heap.get? G.objs.size = none := by
    cases q : s₁.heap.get? G.objs.size with
    | none => rfl
    | some o => exact absurd (Heap.lt_size (kG _ _ q)) (Nat.lt_irrefl _)
  have hC0 : s₁.heap.get? H2.objs.size = none := by
    cases q : s₁.heap.get? H2.objs.size with
    | none => rfl
    | some o => exact absurd (Heap.lt_size (kH _ _ (kG _ _ q))) (Nat.lt_irrefl _)
  have hCD : H2.objs.size ≠ G.objs.size := by rw [hC]; exact Nat.succ_ne_self _
  have hIC : s₁.heap.objs.size ≠ H2.objs.size := lt (kH _ _ hIG)
  have hID : s₁.heap.objs.size ≠ G.objs.size := Nat.ne_of_lt (Heap.lt_size hIG)
  have X : CS s₁.heap H2.objs.size G.objs.size [] (fun x => ([] : List (Str × Value)).reverse.lookup x) [] h₁ :=
    ⟨kS, hns₁, kh _ _ hDH, (fun _ hq => nomatch hq), (fun _ hp => nomatch hp), hCD, hC0, hD0⟩
  have hst : IsRangeIter h₁ s₁.heap.objs.size (0 + ((0 : Nat) : Int) * 1) ((k : Int) - ((0 : Nat) : Int)) 1 := by
    have z := kh _ _ (kH _ _ hIG)
    show _ = _
    rw [z]
    simp
  have hLD : L ≠ G.objs.size := by
    obtain ⟨o, _, _, ho, _⟩ := F.ns
    exact Nat.ne_of_lt (Heap.lt_size (kG _ _ ho))
  have h0 : ∀ {b : Addr}, s₁.heap.get? b = none → h₀.get? b = none := fun {b} e => by
    cases q : h₀.get? b with
    | none => rfl
    | some o => rw [F.keep _ _ q] at e; cases e
  have loop : ∀ s₃ : Shared, s₃ = { s₁ with heap := h₁, toks := s₁.toks + ([] : List (Str × Value)).length } →
      codeAny (model prog w) A (.compLoop (comp1 elt it0 x px scope pos) 0 (.ref s₁.heap.objs.size) (.ref G.objs.size) (compEnvC scope cl H2.objs.size env))
        (compPost (model prog w) A E none Q (.ref G.objs.size) H2.objs.size) s₃ := by
    rintro s₃ rfl
    refine single hh hkx hkind (helt _) hk8 hst X hfI hIC hID fun h' tk m₂ qs X' hl hp => ?_
    refine ⟨m₂, X'.ns, fun h'' hs'' => ?_⟩
    have k2 : ∀ b o, s₁.heap.get? b = some o → h''.get? b = some o := fun b o e => hs''.extBut b o (fun q => by rw [q, hC0] at e; cases e) (X'.keep b o e)
    refine fin G.objs.size h'' tk qs (F.after k2) (newsCons (hs''.extBut _ _ (Ne.symm hCD) X'.acc) (Ne.symm hLD) (h0 hD0) fun p hp => ?_) hl hp
    rcases List.mem_append.mp hp with hp | hp
    · obtain ⟨q, hq, rfl⟩ := List.mem_map.mp hp
      have z := X'.tups q hq
      refine ⟨hs''.extBut _ _ z.2.2.1 z.1, fun e => ?_, h0 z.2.1⟩
      obtain ⟨o, _, _, ho, _⟩ := F.ns
      have z1 := z.2.1
      rw [show q.T = L from e, ho] at z1
      cases z1
    · exact newsAll N k2 p hp
  exact codeAny_compStart_list (loop _ rfl) (wpAny_pyIter_rangeiter hst (loop _ rfl))
end

section
variable {prog : Program} {w : World} {A : Around} {scope : Scope} {cl : List (Str × Addr)} {C : Addr} {env : Env} {x : Str} {p1 p2 p3 p4 p5 p6 pos : Pos} {k1 k2 k3 : Nat}
/-- (0, x) -/
theorem elt0_ok (hk : (compEnvC scope cl C env).scope.kind = .function) (hx : (compEnvC scope cl C env).kindOf x = some .local) (hdx : (x == ("__debug__" : Str)) = false) :
    ∀ (s : Shared) (Q : Value → Shared → Prop) (E : Value → Shared → Prop) (m' : Str → Option Value) (i : Int) (t : Tok), s.heap.Ns C m' → m' x = some (.int i t) →
      (∀ tk t1 t2, Q (.ref s.heap.objs.size) { s with heap := s.heap.push (tupObj [.int ((fun _ => 0 : Int → Int) i) t1, .int ((fun j => j : Int → Int) i) t2]), toks := tk }) →
      wpAny (model prog w) A (eval (.Tuple [.Constant (.int 0) k2 p1, .Name x p2] k1 p3) (compEnvC scope cl C env)) Q E s := by
  intro s Q E m' i t hn h1 h
  exact wpAny_Tuple (spliced_more (wpAny_Constant_int (spliced_more (ldVarK hn h1 (spliced_none ⟨by rw [sizeLine_eq]; show 2 ≤ 16777216; decide, h _ _ _⟩) hk hx hdx))))
/-- (x + 1, x) -/
theorem elt1_ok (hk : (compEnvC scope cl C env).scope.kind = .function) (hx : (compEnvC scope cl C env).kindOf x = some .local) (hdx : (x == ("__debug__" : Str)) = false) :
    ∀ (s : Shared) (Q : Value → Shared → Prop) (E : Value → Shared → Prop) (m' : Str → Option Value) (i : Int) (t : Tok), s.heap.Ns C m' → m' x = some (.int i t) →
      (∀ tk t1 t2, Q (.ref s.heap.objs.size) { s with heap := s.heap.push (tupObj [.int ((fun j => j + 1 : Int → Int) i) t1, .int ((fun j => j : Int → Int) i) t2]), toks := tk }) →
      wpAny (model prog w) A (eval (.Tuple [.BinOp (.Name x p1) .Add (.Constant (.int 1) k2 p2) p4, .Name x p5] k1 p3) (compEnvC scope cl C env)) Q E s := by
  intro s Q E m' i t hn h1 h
  exact wpAny_Tuple (spliced_more (wpAny_BinOp (ldVarK hn h1 (wpAny_Constant_int (add_int (spliced_more (ldVarK hn h1 (spliced_none ⟨by rw [sizeLine_eq]; show 2 ≤ 16777216; decide, h _ _ _⟩) hk hx hdx)))) hk hx hdx)))
end
end Mine

-- part: MemT
namespace Mine
section
variable {prog : Program} {w : World} {A : Around} {E : Value → Shared → Prop} {s : Shared}
theorem tup_eqAt {A : Around} {T U : Addr} {a b c d : Int} {t1 t2 t3 t4 : Tok} (hT : s.heap.get? T = some (tupObj [.int a t1, .int b t2])) (hU : s.heap.get? U = some (tupObj [.int c t3, .int d t4])) (hu : A.units < cLine) :
    PySem.SeqAt.EqAt A s (.ref T) (.ref U) (a == c && b == d) := by
  by_cases e : T = U
  · subst e
    rw [hT] at hU
    have z := congrArg Obj.data (Option.some.inj hU)
    have z1 : a = c ∧ b = d := by
      simp only [Data.seq.injEq] at z
      have z2 := congrArg Array.toList z.1
      simp at z2
      exact ⟨z2.1.1, z2.2.1⟩
    obtain ⟨rfl, rfl⟩ := z1
    simp only [beq_self_eq_true, Bool.and_self]
    exact PySem.SeqAt.EqAt.same _
  · refine PySem.SeqAt.EqAt.of_refs e ?_
    have h := PySem.SeqAt.RcAt.tuples (A := A) (s := s) (l := T) (b := U) (items := [.int a t1, .int b t2].toArray) (items2 := [.int c t3, .int d t4].toArray) (e := fun j => if j = 0 then a == c else b == d)
      ⟨_, hT, rfl, _, rfl⟩ ⟨_, hU, rfl, _, rfl⟩ hu (fun j h1 h2 => ?_)
    · have q : ((List.range (min [Value.int a t1, Value.int b t2].toArray.size [Value.int c t3, Value.int d t4].toArray.size)).all (fun j => if j = 0 then a == c else b == d) && [Value.int a t1, Value.int b t2].toArray.size == [Value.int c t3, Value.int d t4].toArray.size) = (a == c && b == d) := by
        simp [List.range, List.range.loop]
      rw [q] at h
      exact h
    · match j, h1, h2 with
      | 0, _, _ => exact PySem.SeqAt.EqAt.int_int _ _ _ _
      | 1, _, _ => exact PySem.SeqAt.EqAt.int_int _ _ _ _

theorem in_tups {l U : Addr} {qs : List Tup} {a b : Int} {t1 t2 : Tok} {Q : Value → Shared → Prop} (hl : s.heap.IsList l (qs.map Tup.v).toArray) (hq : ∀ q ∈ qs, s.heap.get? q.T = some q.obj)
    (hU : s.heap.get? U = some (tupObj [.int a t1, .int b t2])) (hu : A.in1.units < cLine) (h : Q (.bool ((qs.map Tup.p).any fun p => p.1 == a && p.2 == b)) s) :
    wpAny (model prog w) A (compareOp .In (.ref U) (.ref l)) Q E s := by
  have same : ∀ q ∈ qs, qs.any (fun r => r.v == q.v && (r.a == a && r.b == b)) = (q.a == a && q.b == b) := fun q hq' => by
    cases e : (q.a == a && q.b == b) with
    | true => exact List.any_eq_true.mpr ⟨q, hq', by simp [e]⟩
    | false =>
      refine List.any_eq_false.mpr fun r hr z => ?_
      simp only [Bool.and_eq_true, beq_iff_eq] at z
      have hv : r.T = q.T := Value.ref.inj z.1
      have z1 := hq r hr
      rw [hv, hq q hq'] at z1
      have z2 := congrArg Obj.data (Option.some.inj z1)
      simp only [Tup.obj, Data.seq.injEq] at z2
      have z3 := congrArg Array.toList z2.1
      simp at z3
      rw [z3.1.1, z3.2.1, z.2.1, z.2.2] at e
      simp at e
  refine PySem.SeqAt.in_listAt (fun y => qs.any fun r => r.v == y && (r.a == a && r.b == b)) hl (fun y hy => ?_) ?_
  · have hy' : y ∈ qs.map Tup.v := by simpa using hy
    obtain ⟨q, hq', rfl⟩ := List.mem_map.mp hy'
    rw [same q hq']
    exact tup_eqAt (hq q hq') hU hu
  · have e : (qs.map Tup.v).toArray.any (fun y => qs.any fun r => r.v == y && (r.a == a && r.b == b)) = (qs.map Tup.p).any fun p => p.1 == a && p.2 == b := by
      rw [List.any_toArray, List.any_map, List.any_map]
      apply Bool.eq_iff_iff.mpr
      simp only [List.any_eq_true, Function.comp]
      constructor
      · rintro ⟨q, hq', z⟩
        exact ⟨q, hq', by rw [← List.any_eq_true, same q hq'] at z; exact z⟩
      · rintro ⟨q, hq', z⟩
        exact ⟨q, hq', by rw [← List.any_eq_true, same q hq']; exact z⟩
    rw [e]
    exact h
end
end Mine

-- part: InRange
namespace Mine
section
variable {prog : Program} {w : World} {A : Around} {E : Value → Shared → Prop} {s : Shared}
theorem in_range0 {r : Addr} {a b i : Int} {t u v ti : Tok} {Q : Value → Shared → Prop} (hr : IsRange s.heap r a b 1 t u v) (h : Q (.bool (decide (a ≤ i ∧ i < b))) s) :
    wpAny (model prog w) A (compareOp .In (.int i ti) (.ref r)) Q E s := by
  have hT : s.TypeIs (.ref r) "range" := ⟨_, hr, rfl⟩
  show wpAny _ A (do return .bool (← contains (.ref r) (.int i ti))) Q E s
  refine wpAny_bind (wpAny_contains_slot hT PySem.F.slot_range_contains (wpAny_call_entry PySem.F.slot_range_contains hT PySem.F.entry_range_contains ?_ (PySem.F.args_range_contains_2 _ _)))
  obtain ⟨hp, g, d, tk, os⟩ := s
  wp_walk using wpAny_loadPart' hr
  have e : (Builtin.Range.rangePlace? a b 1 i).isSome = decide (a ≤ i ∧ i < b) := by
    unfold Builtin.Range.rangePlace?
    by_cases h1 : a ≤ i <;> by_cases h2 : i < b <;> simp [h1, h2]
  rw [e]
  exact ⟨_, rfl, wpAny_truthy_bool (wpAny_pure h)⟩
end
end Mine

-- part: CompG
namespace Mine
abbrev lst0 (ys : List Value) : Obj := { cls := .type "list", data := .seq ys.toArray }
section
variable {prog : Program} {w : World} {A : Around} {E : Value → Shared → Prop} {s : Shared} {x y ym yl : Str} {p1 p2 p3 q1 q2 q3 q4 q5 q6 r1 r2 r3 r4 : Pos} {k1 k2 k3 : Nat} {scope : Scope} {cl : List (Str × Addr)} {env : Env} {h₀ : Heap} {L : Addr} {m : Str → Option Value}
  {mean : ExcName → Option Value} {mg mb : Str → Option Value}

theorem compAt_let {r cm cn : Addr} {om on : Obj} {mv : Int} {tm tn t u v : Tok} {k : Nat} {news : List (Addr × Obj)} {Q : Value → Shared → Prop}
    (hr : IsRange s.heap r 1 ((k : Nat) + 1 : Int) 1 t u v) (hh : A.handled = none) (hk8 : k ≤ 8) (F : Fr h₀ L s.heap m) (N : News h₀ L s.heap news) (X : (Mine.hd.heap_39 w.params).In h₀) (T : Top Mine.hd.view_39 (looseW Mine.hd.view_39 []) mean mg mb h₀)
    (hcm : cl.lookup ym = some cm) (hmm : (cm, om) ∈ news) (hdm : om.data = .cell (some (.int mv tm)))
    (hcn : cl.lookup yl = some cn) (hmn : (cn, on) ∈ news) (hdn : on.data = .cell (some (.int (k : Int) tn)))
    (hg : env.globals = mainGlobals) (hbi : env.builtins = builtinsNs)
    (hk : ∀ C, (compEnvC scope cl C env).scope.kind = .function) (hx : ∀ C, (compEnvC scope cl C env).kindOf x = some .local) (hy : ∀ C, (compEnvC scope cl C env).kindOf y = some .local)
    (hm : ∀ C, (compEnvC scope cl C env).kindOf ym = some .cell) (hl : ∀ C, (compEnvC scope cl C env).kindOf yl = some .cell) (hrg : ∀ C, (compEnvC scope cl C env).kindOf (Str.ofString "range") = some .globalImplicit)
    (dx : (x == ("__debug__" : Str)) = false) (dy : (y == ("__debug__" : Str)) = false) (dm : (ym == ("__debug__" : Str)) = false) (dl : (yl == ("__debug__" : Str)) = false)
    (fin : ∀ D h' tk (qs : List Tup), Fr h₀ L h' m → News h₀ L h' ((D, LCg.lst (qs.map Tup.v)) :: (qs.map Tup.e ++ news)) → qs.length ≤ 64 → qs.map Tup.p = (if (mv == 1) = true then rows k k else []) → Q (.ref D) { s with heap := h', toks := tk }) :
    CompAt prog w A h₀ L m env (.Tuple [.Name x p1, .Name y p2] k1 p3) (.Call (.Name (Str.ofString "range") q1) [.Name x q2, .BinOp (.Name yl q3) .Add (.Constant (.int 1) k2 q4) q5] [] q6) (.Compare (.Name ym r1) [.Eq] [.Constant (.int 1) k3 r2] r3) x y scope cl Q (.ref r) s :=
  ⟨r, k, t, u, v, mv == 1, news, rfl, hk8, hh, hr, F, N, fun C => tst_ok N hcm hmm hdm (hk C) (hm C) dm, fun C => elt_ok (hk C) (hx C) (hy C) dx dy,
    fun C => it1_ok F N X T hcn hmn hdn hg hbi (hk C) (hx C) (hl C) (hrg C) dx dl, fun D h' tk qs F' N' hl hp => fin D h' tk qs F' N' hl hp⟩

theorem compAt1_let {r : Addr} {fa fb : Int → Int} {n : Nat} {t u v : Tok} {news : List (Addr × Obj)} {Q : Value → Shared → Prop}
    (hr : IsRange s.heap r 0 ((n : Nat) : Int) 1 t u v) (hn : n ≤ 64) (hh : A.handled = none) (F : Fr h₀ L s.heap m) (N : News h₀ L s.heap news)
    (fin : ∀ D h' tk (qs : List Tup), Fr h₀ L h' m → News h₀ L h' ((D, LCg.lst (qs.map Tup.v)) :: (qs.map Tup.e ++ news)) → qs.length ≤ 64 → qs.map Tup.p = col fa fb n → Q (.ref D) { s with heap := h', toks := tk }) :
    CompAt1 A h₀ L m fa fb Q (.ref r) s :=
  ⟨r, n, t, u, v, news, rfl, hn, hh, hr, F, N, fin⟩

theorem add_tup0 {l b T : Addr} {qs : List Tup} {c : Tok} {news : List (Addr × Obj)} {Q : Value → Shared → Prop} (F : Fr h₀ L s.heap m) (N : News h₀ L s.heap news) (hl : (l, W.listOf #[.ref T] c) ∈ news) (hb : (b, LCg.lst (qs.map Tup.v)) ∈ news) (hsz : qs.length ≤ 64)
    (h : ∀ D h', Fr h₀ L h' m → News h₀ L h' ((D, lst0 (.ref T :: qs.map Tup.v)) :: news) → Q (.ref D) { s with heap := h' }) :
    wpAny (model prog w) A (binaryOp .Add (.ref l) (.ref b)) Q E s :=
  add_arrays (its := #[.ref T]) (its2 := (qs.map Tup.v).toArray) F N (N.isList hl) (N.isList hb) (fun h' F' N' => h _ h' F' (by simp at N'; exact N')) (by rw [sizeLine_eq]; simp only [List.size_toArray, List.length_map, List.length_singleton]; omega)

theorem add_tups {l b : Addr} {qs1 qs2 : List Tup} {news : List (Addr × Obj)} {Q : Value → Shared → Prop} (F : Fr h₀ L s.heap m) (N : News h₀ L s.heap news) (hl : (l, LCg.lst (qs1.map Tup.v)) ∈ news) (hb : (b, LCg.lst (qs2.map Tup.v)) ∈ news) (hs1 : qs1.length ≤ 64) (hs2 : qs2.length ≤ 64)
    (h : ∀ D h', Fr h₀ L h' m → News h₀ L h' ((D, lst0 ((qs1 ++ qs2).map Tup.v)) :: news) → Q (.ref D) { s with heap := h' }) :
    wpAny (model prog w) A (binaryOp .Add (.ref l) (.ref b)) Q E s :=
  add_arrays (its := (qs1.map Tup.v).toArray) (its2 := (qs2.map Tup.v).toArray) F N (N.isList hl) (N.isList hb) (fun h' F' N' => h _ h' F' (by rw [List.map_append]; simp at N'; exact N')) (by rw [sizeLine_eq]; simp only [List.size_toArray, List.length_map]; omega)

def anyIs (P : List (Int × Int)) (a b : Int) : Bool := P.any fun p => p.1 == a && p.2 == b

theorem in_bands {l T U : Addr} {qs : List Tup} {a b c d : Int} {t1 t2 t3 t4 : Tok} {news : List (Addr × Obj)} {P : List (Int × Int)} {Q : Value → Shared → Prop} (N : News h₀ L s.heap news) (hl : (l, lst0 (.ref T :: qs.map Tup.v)) ∈ news)
    (hT : (T, tupObj [.int a t1, .int b t2]) ∈ news) (hq : ∀ q ∈ qs, q.e ∈ news) (hU : (U, tupObj [.int c t3, .int d t4]) ∈ news) (hp : qs.map Tup.p = P) (hu : A.in1.units < cLine) (h : Q (.bool (anyIs ((a, b) :: P) c d)) s) :
    wpAny (model prog w) A (compareOp .In (.ref U) (.ref l)) Q E s := by
  subst hp
  exact in_tups (qs := ⟨T, t1, t2, a, b⟩ :: qs) (N.isList hl) (fun q hq' => by
    rcases List.mem_cons.mp hq' with rfl | hq'
    · exact (N _ hT).1
    · exact (N _ (hq q hq')).1) (N _ hU).1 hu h

theorem in_bits {l U : Addr} {qs1 qs2 : List Tup} {c d : Int} {t3 t4 : Tok} {news : List (Addr × Obj)} {P1 P2 : List (Int × Int)} {Q : Value → Shared → Prop} (N : News h₀ L s.heap news) (hl : (l, lst0 ((qs1 ++ qs2).map Tup.v)) ∈ news)
    (hq1 : ∀ q ∈ qs1, q.e ∈ news) (hq2 : ∀ q ∈ qs2, q.e ∈ news) (hU : (U, tupObj [.int c t3, .int d t4]) ∈ news) (hp1 : qs1.map Tup.p = P1) (hp2 : qs2.map Tup.p = P2) (hu : A.in1.units < cLine) (h : Q (.bool (anyIs (P1 ++ P2) c d)) s) :
    wpAny (model prog w) A (compareOp .In (.ref U) (.ref l)) Q E s := by
  subst hp1 hp2
  refine in_tups (qs := qs1 ++ qs2) (N.isList hl) (fun q hq' => ?_) (N _ hU).1 hu (by rw [List.map_append]; exact h)
  rcases List.mem_append.mp hq' with hq' | hq'
  · exact (N _ (hq1 q hq')).1
  · exact (N _ (hq2 q hq')).1
end

theorem mem_row {a b : Int} {n : Nat} {c d : Int} : (c, d) ∈ row a b n ↔ c = a ∧ b ≤ d ∧ d < b + n := by
  unfold row
  rw [List.mem_map]
  constructor
  · rintro ⟨i, hi, e⟩
    have hi := List.mem_range.mp hi
    simp only [Prod.mk.injEq] at e
    omega
  · rintro ⟨rfl, h1, h2⟩
    obtain ⟨j, hj⟩ := Int.eq_ofNat_of_zero_le (show 0 ≤ d - b by omega)
    refine ⟨j, List.mem_range.mpr (by omega), ?_⟩
    have e : b + (j : Int) = d := by omega
    rw [e]
theorem mem_rows {k : Nat} : ∀ {i : Nat} {c d : Int}, i ≤ k → ((c, d) ∈ rows k i ↔ 1 ≤ c ∧ c ≤ i ∧ c ≤ d ∧ d ≤ k)
  | 0, c, d, _ => by simp only [rows, List.not_mem_nil, false_iff]; omega
  | i + 1, c, d, h => by
    simp only [rows, List.mem_append, mem_rows (Nat.le_of_succ_le h), mem_row]
    omega
theorem mem_col {fa fb : Int → Int} {n : Nat} {c d : Int} : (c, d) ∈ col fa fb n ↔ ∃ i : Nat, i < n ∧ fa i = c ∧ fb i = d := by
  unfold col
  simp [List.mem_map]
theorem anyIs_iff {P : List (Int × Int)} {a b : Int} : anyIs P a b = true ↔ (a, b) ∈ P := by
  unfold anyIs
  rw [List.any_eq_true]
  constructor
  · rintro ⟨⟨c, d⟩, h, e⟩
    simp only [Bool.and_eq_true, beq_iff_eq] at e
    rw [← e.1, ← e.2]
    exact h
  · intro h
    exact ⟨_, h, by simp⟩
theorem bands_pr {many : Int} {k : Nat} {st en : Int} : anyIs ((0, 0) :: (if (many == 1) = true then rows k k else [])) st en = decide ((st = 0 ∧ en = 0) ∨ (many = 1 ∧ 1 ≤ st ∧ st ≤ en ∧ en ≤ k)) := by
  apply Bool.eq_iff_iff.mpr
  rw [anyIs_iff, decide_eq_true_eq, List.mem_cons]
  simp only [Prod.mk.injEq]
  by_cases h : many = 1
  · rw [if_pos (by simp [h]), mem_rows (Nat.le_refl _)]
    omega
  · rw [if_neg (by simp [h])]
    simp [h]
theorem bits_pr {hi lo : Int} : anyIs (col (fun _ => 0) (fun j => j) 14 ++ col (fun j => j + 1) (fun j => j) 14) hi lo = decide (0 ≤ lo ∧ lo ≤ 13 ∧ (hi = 0 ∨ hi = lo + 1)) := by
  apply Bool.eq_iff_iff.mpr
  rw [anyIs_iff, decide_eq_true_eq, List.mem_append, mem_col, mem_col]
  constructor
  · rintro (⟨i, h, h1, h2⟩ | ⟨i, h, h1, h2⟩) <;> omega
  · rintro ⟨h1, h2, h3 | h3⟩
    · exact Or.inl ⟨lo.toNat, by omega, by omega, by omega⟩
    · exact Or.inr ⟨lo.toNat, by omega, by omega, by omega⟩
theorem let_pr {many : Int} {k : Nat} {st en hi lo : Int} : (anyIs ((0, 0) :: (if (many == 1) = true then rows k k else [])) st en && anyIs (col (fun _ => 0) (fun j => j) 14 ++ col (fun j => j + 1) (fun j => j) 14) hi lo) = toldPr (k : Int) st en hi lo (decide (many = 1)) := by
  rw [bands_pr, bits_pr]
  unfold toldPr
  apply Bool.eq_iff_iff.mpr
  simp only [Bool.and_eq_true, decide_eq_true_eq]
  omega
end Mine

-- part: Let
namespace Mine

def LetSays (kd : Str) (told : Int → Int → Int → Int → Int → Bool → Bool) (w : World) (mean : ExcName → Option Value) (mg mb : Str → Option Value) : Prop :=
  ∀ (dp un : Nat) (gd : Option (List Code)) (cn : Str) (cs : Scope) (a : Addr) (ccd : Value) (cl : List (Str × Addr)) (outer : List Env) (A₀ : Around) (base h₀ : Heap) (L : Addr) (m : Str → Option Value) (s : Shared) (Q E : Value → Shared → Prop)
    (news : List (Addr × Obj)) (rw' : Addr) (tkd tl tm t1 t2 t3 t4 : Tok) (last : Nat) (many st en hi lo : Int),
    Below A₀ base outer h₀ → Fr h₀ L s.heap m → (Mine.hd.heap_39 w.params).In h₀ → News h₀ L s.heap news →
    Top Mine.hd.view_39 (looseW Mine.hd.view_39 []) mean mg mb h₀ → cs.kind = .function →
    (rw', tupObj [.int st t1, .int en t2, .int hi t3, .int lo t4]) ∈ news →
    last ≤ 8 → 1 ≤ many → many ≤ 3 →
    dp + 10 < recursionLimit → un + 80 < cLine →
    (∀ (h' : Heap) (tk' : Nat), Fr h₀ L h' m → News h₀ L h' news → Q (.bool (told last st en hi lo (decide (many = 1)))) { s with heap := h', toks := tk' }) →
    wpAny (model PySem.Challenge.rw_xm0818_01.row.prog w) (ktrTop dp un gd cn cs L a ccd cl outer) (call (.ref 223) [.str kd tkd, .int (last : Int) tl, .int many tm, .ref rw']) Q E s

theorem endB' {h₀ h' : Heap} {L : Addr} {m : Str → Option Value} {news news' : List (Addr × Obj)} {s : Shared} {Q : Value → Shared → Prop} {x y : Bool} {tk' : Nat}
    (hret : ∀ (h' : Heap) (tk' : Nat), Fr h₀ L h' m → News h₀ L h' news → Q (.bool x) { s with heap := h', toks := tk' }) (F : Fr h₀ L h' m) (N : News h₀ L h' news') (hs : ∀ p ∈ news, p ∈ news') (e : y = x) : Q (.bool y) { s with heap := h', toks := tk' } := by
  subst e
  exact hret h' tk' F fun p hp => N p (hs p hp)

section
local macro_rules | `(tactic| k_mem) => `(tactic| assumption)
local macro_rules | `(tactic| news_mem) => `(tactic| assumption)
local macro_rules | `(tactic| news_mem) => `(tactic| k_mem)
local macro_rules | `(tactic| k_room) => `(tactic| ktr_room)
local macro_rules | `(tactic| units_room) => `(tactic| ktr_units)

set_option maxHeartbeats 8000000 in
theorem let_lossless (w : World) (mean : ExcName → Option Value) (mg mb : Str → Option Value) : LetSays (Str.ofString "lossless") toldLl w mean mg mb := by
  unfold LetSays
  intro dp un gd cn cs a ccd cl outer A₀ base h₀ L m s Q E news rw' tkd tl tm t1 t2 t3 t4 last many st en hi lo B F X N T hk hrow hl2 hm1 hm2 hd hu hret
  refine wpAny_call ?_
  k_dflt (refine' code_defC ?k1 ?k2 ?k3 ?k4 ?k5 ?kA ?kF ?kK ?k6 ?k7 ?k8 ?k9 ?kB ?kD ?_ ?c2 ?c3 ?c4; (case kA => exact rfl); (case kF => exact rfl); (case kK => assumption); (case k1 => k_asm); (case k2 => k_asm); (case k3 => k_asm); (case k4 => k_asm); (case k5 => k_asm); (case k6 => k_is); (case k7 => k_is); (case k8 => ktr_room); (case k9 => exact BindsTo.of_eq rfl); (case kB => exact rfl); (case kD => decide +kernel); (case c2 => exact rfl); (case c3 => exact rfl); (case c4 => exact rfl); k_whole; intro g' L' h' tk' cells' FG' F' N' Y' B' X' T' l1; (try k_lt l1); k_cells Y'; (try simp only [List.cons_append, List.nil_append] at N'); (try dsimp only); (try k_lift B'); (try k_fold))
  k_with_none
  k_with "compareOp In int ref" => (k_here; (with_unfolding_all refine' in_range0 (by assumption) ?_; k_whole))
  k_with "ite" => (k_closed; k_dflt (first | refine ite_pos (by decide +kernel) ?_ | refine ite_neg (by decide +kernel) ?_))
  w_top off
  k_steps
  all_goals (refine endB' hret (by k_asm) (by k_asm) ?_ ?_)
  all_goals first | (intro p hp; (repeat' first | exact hp | refine List.Mem.tail _ ?_); done) | skip
  all_goals (simp only [toldLl])
  all_goals (apply Bool.eq_iff_iff.mpr)
  all_goals (simp only [Bool.and_eq_true, beq_iff_eq, decide_eq_true_eq])
  all_goals first
    | omega
    | ((rename ((_ && _) = _) => hb9); (first | rw [Bool.and_eq_true] at hb9 | (rw [← Bool.not_eq_true, Bool.and_eq_true] at hb9)); simp only [beq_iff_eq] at hb9; omega)

set_option maxHeartbeats 8000000 in
theorem let_baseline (w : World) (mean : ExcName → Option Value) (mg mb : Str → Option Value) : LetSays (Str.ofString "baseline") toldSq w mean mg mb := by
  unfold LetSays
  intro dp un gd cn cs a ccd cl outer A₀ base h₀ L m s Q E news rw' tkd tl tm t1 t2 t3 t4 last many st en hi lo B F X N T hk hrow hl2 hm1 hm2 hd hu hret
  refine wpAny_call ?_
  k_dflt (refine' code_defC ?k1 ?k2 ?k3 ?k4 ?k5 ?kA ?kF ?kK ?k6 ?k7 ?k8 ?k9 ?kB ?kD ?_ ?c2 ?c3 ?c4; (case kA => exact rfl); (case kF => exact rfl); (case kK => assumption); (case k1 => k_asm); (case k2 => k_asm); (case k3 => k_asm); (case k4 => k_asm); (case k5 => k_asm); (case k6 => k_is); (case k7 => k_is); (case k8 => ktr_room); (case k9 => exact BindsTo.of_eq rfl); (case kB => exact rfl); (case kD => decide +kernel); (case c2 => exact rfl); (case c3 => exact rfl); (case c4 => exact rfl); k_whole; intro g' L' h' tk' cells' FG' F' N' Y' B' X' T' l1; (try k_lt l1); k_cells Y'; (try simp only [List.cons_append, List.nil_append] at N'); (try dsimp only); (try k_lift B'); (try k_fold))
  k_with_none
  k_with "compareOp In int ref" => (k_here; (with_unfolding_all refine' in_range0 (by assumption) ?_; k_whole))
  k_with "ite" => (k_closed; k_dflt (first | refine ite_pos (by decide +kernel) ?_ | refine ite_neg (by decide +kernel) ?_))
  w_top off
  k_steps
  all_goals (refine endB' hret (by k_asm) (by k_asm) ?_ ?_)
  all_goals first | (intro p hp; (repeat' first | exact hp | refine List.Mem.tail _ ?_); done) | skip
  all_goals (simp only [toldSq])
  all_goals (apply Bool.eq_iff_iff.mpr)
  all_goals (simp only [Bool.and_eq_true, beq_iff_eq, decide_eq_true_eq])
  all_goals first
    | omega
    | ((rename ((_ && _) = _) => hb9); (first | rw [Bool.and_eq_true] at hb9 | (rw [← Bool.not_eq_true, Bool.and_eq_true] at hb9)); simp only [beq_iff_eq] at hb9; omega)

set_option maxHeartbeats 8000000 in
theorem let_extended (w : World) (mean : ExcName → Option Value) (mg mb : Str → Option Value) : LetSays (Str.ofString "extended") toldSq w mean mg mb := by
  unfold LetSays
  intro dp un gd cn cs a ccd cl outer A₀ base h₀ L m s Q E news rw' tkd tl tm t1 t2 t3 t4 last many st en hi lo B F X N T hk hrow hl2 hm1 hm2 hd hu hret
  refine wpAny_call ?_
  k_dflt (refine' code_defC ?k1 ?k2 ?k3 ?k4 ?k5 ?kA ?kF ?kK ?k6 ?k7 ?k8 ?k9 ?kB ?kD ?_ ?c2 ?c3 ?c4; (case kA => exact rfl); (case kF => exact rfl); (case kK => assumption); (case k1 => k_asm); (case k2 => k_asm); (case k3 => k_asm); (case k4 => k_asm); (case k5 => k_asm); (case k6 => k_is); (case k7 => k_is); (case k8 => ktr_room); (case k9 => exact BindsTo.of_eq rfl); (case kB => exact rfl); (case kD => decide +kernel); (case c2 => exact rfl); (case c3 => exact rfl); (case c4 => exact rfl); k_whole; intro g' L' h' tk' cells' FG' F' N' Y' B' X' T' l1; (try k_lt l1); k_cells Y'; (try simp only [List.cons_append, List.nil_append] at N'); (try dsimp only); (try k_lift B'); (try k_fold))
  k_with_none
  k_with "compareOp In int ref" => (k_here; (with_unfolding_all refine' in_range0 (by assumption) ?_; k_whole))
  k_with "ite" => (k_closed; k_dflt (first | refine ite_pos (by decide +kernel) ?_ | refine ite_neg (by decide +kernel) ?_))
  w_top off
  k_steps
  all_goals (refine endB' hret (by k_asm) (by k_asm) ?_ ?_)
  all_goals first | (intro p hp; (repeat' first | exact hp | refine List.Mem.tail _ ?_); done) | skip
  all_goals (simp only [toldSq])
  all_goals (apply Bool.eq_iff_iff.mpr)
  all_goals (simp only [Bool.and_eq_true, beq_iff_eq, decide_eq_true_eq])
  all_goals first
    | omega
    | ((rename ((_ && _) = _) => hb9); (first | rw [Bool.and_eq_true] at hb9 | (rw [← Bool.not_eq_true, Bool.and_eq_true] at hb9)); simp only [beq_iff_eq] at hb9; omega)

set_option maxHeartbeats 8000000 in
theorem let_arith (w : World) (mean : ExcName → Option Value) (mg mb : Str → Option Value) : LetSays (Str.ofString "arith") toldSq w mean mg mb := by
  unfold LetSays
  intro dp un gd cn cs a ccd cl outer A₀ base h₀ L m s Q E news rw' tkd tl tm t1 t2 t3 t4 last many st en hi lo B F X N T hk hrow hl2 hm1 hm2 hd hu hret
  refine wpAny_call ?_
  k_dflt (refine' code_defC ?k1 ?k2 ?k3 ?k4 ?k5 ?kA ?kF ?kK ?k6 ?k7 ?k8 ?k9 ?kB ?kD ?_ ?c2 ?c3 ?c4; (case kA => exact rfl); (case kF => exact rfl); (case kK => assumption); (case k1 => k_asm); (case k2 => k_asm); (case k3 => k_asm); (case k4 => k_asm); (case k5 => k_asm); (case k6 => k_is); (case k7 => k_is); (case k8 => ktr_room); (case k9 => exact BindsTo.of_eq rfl); (case kB => exact rfl); (case kD => decide +kernel); (case c2 => exact rfl); (case c3 => exact rfl); (case c4 => exact rfl); k_whole; intro g' L' h' tk' cells' FG' F' N' Y' B' X' T' l1; (try k_lt l1); k_cells Y'; (try simp only [List.cons_append, List.nil_append] at N'); (try dsimp only); (try k_lift B'); (try k_fold))
  k_with_none
  k_with "compareOp In int ref" => (k_here; (with_unfolding_all refine' in_range0 (by assumption) ?_; k_whole))
  k_with "ite" => (k_closed; k_dflt (first | refine ite_pos (by decide +kernel) ?_ | refine ite_neg (by decide +kernel) ?_))
  w_top off
  k_steps
  all_goals (refine endB' hret (by k_asm) (by k_asm) ?_ ?_)
  all_goals first | (intro p hp; (repeat' first | exact hp | refine List.Mem.tail _ ?_); done) | skip
  all_goals (simp only [toldSq])
  all_goals (apply Bool.eq_iff_iff.mpr)
  all_goals (simp only [Bool.and_eq_true, beq_iff_eq, decide_eq_true_eq])
  all_goals first
    | omega
    | ((rename ((_ && _) = _) => hb9); (first | rw [Bool.and_eq_true] at hb9 | (rw [← Bool.not_eq_true, Bool.and_eq_true] at hb9)); simp only [beq_iff_eq] at hb9; omega)

end
section
local macro_rules | `(tactic| k_mem) => `(tactic| assumption)
local macro_rules | `(tactic| news_mem) => `(tactic| assumption)
local macro_rules | `(tactic| news_mem) => `(tactic| k_mem)
local macro_rules | `(tactic| k_room) => `(tactic| ktr_room)
local macro_rules | `(tactic| units_room) => `(tactic| ktr_units)
local macro_rules | `(tactic| k_mem) => `(tactic| ((repeat' first | exact List.Mem.head _ | assumption | refine List.mem_append_right _ ?_ | refine List.Mem.tail _ ?_); done))

set_option maxHeartbeats 8000000 in
theorem let_progressive (w : World) (mean : ExcName → Option Value) (mg mb : Str → Option Value) : LetSays (Str.ofString "progressive") toldPr w mean mg mb := by
  unfold LetSays
  intro dp un gd cn cs a ccd cl outer A₀ base h₀ L m s Q E news rw' tkd tl tm t1 t2 t3 t4 last many st en hi lo B F X N T hk hrow hl2 hm1 hm2 hd hu hret
  refine wpAny_call ?_
  k_dflt (refine' code_defC ?k1 ?k2 ?k3 ?k4 ?k5 ?kA ?kF ?kK ?k6 ?k7 ?k8 ?k9 ?kB ?kD ?_ ?c2 ?c3 ?c4; (case kA => exact rfl); (case kF => exact rfl); (case kK => assumption); (case k1 => k_asm); (case k2 => k_asm); (case k3 => k_asm); (case k4 => k_asm); (case k5 => k_asm); (case k6 => k_is); (case k7 => k_is); (case k8 => ktr_room); (case k9 => exact BindsTo.of_eq rfl); (case kB => exact rfl); (case kD => decide +kernel); (case c2 => exact rfl); (case c3 => exact rfl); (case c4 => exact rfl); k_whole; intro g' L' h' tk' cells' FG' F' N' Y' B' X' T' l1; (try k_lt l1); k_cells Y'; (try simp only [List.cons_append, List.nil_append] at N'); (try dsimp only); (try k_lift B'); (try k_fold))
  k_with_none
  k_with "compareOp In int ref" => (k_here; (with_unfolding_all refine' in_range0 (by assumption) ?_; k_whole))
  k_with "TUPMEM" => (intro q hq; (repeat' first | exact List.mem_append_left _ (List.mem_map_of_mem hq) | refine List.mem_append_right _ ?_ | refine List.Mem.tail _ ?_); done)
  k_with "eval ListComp Tuple cons" => (k_here; (with_reducible show wpAny _ _ (eval (.ListComp (.Tuple [.Constant _ _ _, _] _ _) [_] _ _) _) _ _ _); k_dflt (refine comp_one (by k_asm) (by with_unfolding_all rfl) (by decide) (by rfl) (by decide) (by rfl) (fun C => elt0_ok (by rfl) (by rfl) (by decide)) ?_))
  k_with "eval ListComp Tuple cons" => (k_here; (with_reducible show wpAny _ _ (eval (.ListComp (.Tuple [.BinOp _ _ _ _, _] _ _) [_] _ _) _) _ _ _); k_dflt (refine comp_one (by k_asm) (by with_unfolding_all rfl) (by decide) (by rfl) (by decide) (by rfl) (fun C => elt1_ok (by rfl) (by rfl) (by decide)) ?_))
  k_with "eval ListComp Tuple cons" => (k_here; (with_reducible show wpAny _ _ (eval (.ListComp _ [_, _] _ _) _) _ _ _); k_dflt (refine comp_all (by k_asm) (by with_unfolding_all rfl) (by decide) (by rfl) (by decide) (by rfl) (by rfl) (by decide) ?_))
  k_with "CompAt Tuple Call Compare cons ref" => (k_dflt (refine' compAt_let (k := _) (by assumption) (by rfl) (by assumption) (by k_asm) (by k_asm) (by k_asm) (by k_asm) (by exact rfl) (by k_mem) (by assumption) (by exact rfl) (by k_mem) (by assumption) (by rfl) (by rfl) (fun C => by rfl) (fun C => by rfl) (fun C => by rfl) (fun C => by rfl) (fun C => by rfl) (fun C => by rfl) (by decide) (by decide) (by decide) (by decide) ?_; intro D' h' tk' qs' F' N' hl' hp'))
  k_with "CompAt1 ref" => (k_dflt (refine' compAt1_let (n := 14) (by assumption) (by decide) (by rfl) (by k_asm) (by k_asm) ?_; intro D' h' tk' qs' F' N' hl' hp'))
  k_with "binaryOp Add ref ref" => (k_here; k_dflt (first | (refine' add_tup0 (by k_asm) (by k_asm) (by k_mem) (by k_mem) (by assumption) ?_) | (refine' add_tups (by k_asm) (by k_asm) (by k_mem) (by k_mem) (by assumption) (by assumption) ?_)); intro D' h' F' N')
  k_with "compareOp In ref ref" => (k_here; k_dflt (first | (refine' in_bands (by k_asm) (by k_mem) (by k_mem) (by walk_at "TUPMEM") (by k_mem) (by assumption) (by ktr_units) ?_) | (refine' in_bits (by k_asm) (by k_mem) (by walk_at "TUPMEM") (by walk_at "TUPMEM") (by k_mem) (by assumption) (by assumption) (by ktr_units) ?_)))
  k_with "ite" => (k_closed; k_dflt (first | refine ite_pos (by decide +kernel) ?_ | refine ite_neg (by decide +kernel) ?_))
  w_top off
  k_steps
  all_goals (refine endB' hret (by k_asm) (by k_asm) ?_ ?_)
  all_goals first | (intro p hp; (repeat' first | exact hp | refine List.mem_append_right _ ?_ | refine List.Mem.tail _ ?_); done) | skip
  all_goals (rw [← let_pr])
  all_goals (first | (rename (anyIs _ _ _ = true) => h9; rw [h9, Bool.true_and]) | (rename (anyIs _ _ _ = false) => h9; rw [h9, Bool.false_and]))

set_option maxHeartbeats 8000000 in
theorem let_ap (w : World) (mean : ExcName → Option Value) (mg mb : Str → Option Value) : LetSays (Str.ofString "arith progressive") toldPr w mean mg mb := by
  unfold LetSays
  intro dp un gd cn cs a ccd cl outer A₀ base h₀ L m s Q E news rw' tkd tl tm t1 t2 t3 t4 last many st en hi lo B F X N T hk hrow hl2 hm1 hm2 hd hu hret
  refine wpAny_call ?_
  k_dflt (refine' code_defC ?k1 ?k2 ?k3 ?k4 ?k5 ?kA ?kF ?kK ?k6 ?k7 ?k8 ?k9 ?kB ?kD ?_ ?c2 ?c3 ?c4; (case kA => exact rfl); (case kF => exact rfl); (case kK => assumption); (case k1 => k_asm); (case k2 => k_asm); (case k3 => k_asm); (case k4 => k_asm); (case k5 => k_asm); (case k6 => k_is); (case k7 => k_is); (case k8 => ktr_room); (case k9 => exact BindsTo.of_eq rfl); (case kB => exact rfl); (case kD => decide +kernel); (case c2 => exact rfl); (case c3 => exact rfl); (case c4 => exact rfl); k_whole; intro g' L' h' tk' cells' FG' F' N' Y' B' X' T' l1; (try k_lt l1); k_cells Y'; (try simp only [List.cons_append, List.nil_append] at N'); (try dsimp only); (try k_lift B'); (try k_fold))
  k_with_none
  k_with "compareOp In int ref" => (k_here; (with_unfolding_all refine' in_range0 (by assumption) ?_; k_whole))
  k_with "TUPMEM" => (intro q hq; (repeat' first | exact List.mem_append_left _ (List.mem_map_of_mem hq) | refine List.mem_append_right _ ?_ | refine List.Mem.tail _ ?_); done)
  k_with "eval ListComp Tuple cons" => (k_here; (with_reducible show wpAny _ _ (eval (.ListComp (.Tuple [.Constant _ _ _, _] _ _) [_] _ _) _) _ _ _); k_dflt (refine comp_one (by k_asm) (by with_unfolding_all rfl) (by decide) (by rfl) (by decide) (by rfl) (fun C => elt0_ok (by rfl) (by rfl) (by decide)) ?_))
  k_with "eval ListComp Tuple cons" => (k_here; (with_reducible show wpAny _ _ (eval (.ListComp (.Tuple [.BinOp _ _ _ _, _] _ _) [_] _ _) _) _ _ _); k_dflt (refine comp_one (by k_asm) (by with_unfolding_all rfl) (by decide) (by rfl) (by decide) (by rfl) (fun C => elt1_ok (by rfl) (by rfl) (by decide)) ?_))
  k_with "eval ListComp Tuple cons" => (k_here; (with_reducible show wpAny _ _ (eval (.ListComp _ [_, _] _ _) _) _ _ _); k_dflt (refine comp_all (by k_asm) (by with_unfolding_all rfl) (by decide) (by rfl) (by decide) (by rfl) (by rfl) (by decide) ?_))
  k_with "CompAt Tuple Call Compare cons ref" => (k_dflt (refine' compAt_let (k := _) (by assumption) (by rfl) (by assumption) (by k_asm) (by k_asm) (by k_asm) (by k_asm) (by exact rfl) (by k_mem) (by assumption) (by exact rfl) (by k_mem) (by assumption) (by rfl) (by rfl) (fun C => by rfl) (fun C => by rfl) (fun C => by rfl) (fun C => by rfl) (fun C => by rfl) (fun C => by rfl) (by decide) (by decide) (by decide) (by decide) ?_; intro D' h' tk' qs' F' N' hl' hp'))
  k_with "CompAt1 ref" => (k_dflt (refine' compAt1_let (n := 14) (by assumption) (by decide) (by rfl) (by k_asm) (by k_asm) ?_; intro D' h' tk' qs' F' N' hl' hp'))
  k_with "binaryOp Add ref ref" => (k_here; k_dflt (first | (refine' add_tup0 (by k_asm) (by k_asm) (by k_mem) (by k_mem) (by assumption) ?_) | (refine' add_tups (by k_asm) (by k_asm) (by k_mem) (by k_mem) (by assumption) (by assumption) ?_)); intro D' h' F' N')
  k_with "compareOp In ref ref" => (k_here; k_dflt (first | (refine' in_bands (by k_asm) (by k_mem) (by k_mem) (by walk_at "TUPMEM") (by k_mem) (by assumption) (by ktr_units) ?_) | (refine' in_bits (by k_asm) (by k_mem) (by walk_at "TUPMEM") (by walk_at "TUPMEM") (by k_mem) (by assumption) (by assumption) (by ktr_units) ?_)))
  k_with "ite" => (k_closed; k_dflt (first | refine ite_pos (by decide +kernel) ?_ | refine ite_neg (by decide +kernel) ?_))
  w_top off
  k_steps
  all_goals (refine endB' hret (by k_asm) (by k_asm) ?_ ?_)
  all_goals first | (intro p hp; (repeat' first | exact hp | refine List.mem_append_right _ ?_ | refine List.Mem.tail _ ?_); done) | skip
  all_goals (rw [← let_pr])
  all_goals (first | (rename (anyIs _ _ _ = true) => h9; rw [h9, Bool.true_and]) | (rename (anyIs _ _ _ = false) => h9; rw [h9, Bool.false_and]))

end
end Mine

-- part: Pre
namespace Mine
inductive Kind where
  | ba | ex | pr | ll | ar | ap
def Kind.str : Kind → Str
  | .ba => Str.ofString "baseline"
  | .ex => Str.ofString "extended"
  | .pr => Str.ofString "progressive"
  | .ll => Str.ofString "lossless"
  | .ar => Str.ofString "arith"
  | .ap => Str.ofString "arith progressive"
def Kind.fn : Kind → Int → Int → Int → Int → Int → Bool → Bool
  | .pr => toldPr
  | .ap => toldPr
  | .ll => toldLl
  | _ => toldSq
theorem told_any (k : Kind) (w : World) (mean : ExcName → Option Value) (mg mb : Str → Option Value) : ToldSays k.str k.fn w mean mg mb := by
  cases k
  · exact told_baseline w mean mg mb
  · exact told_extended w mean mg mb
  · exact told_progressive w mean mg mb
  · exact told_lossless w mean mg mb
  · exact told_arith w mean mg mb
  · exact told_ap w mean mg mb
theorem let_any (k : Kind) (w : World) (mean : ExcName → Option Value) (mg mb : Str → Option Value) : LetSays k.str k.fn w mean mg mb := by
  cases k
  · exact let_baseline w mean mg mb
  · exact let_extended w mean mg mb
  · exact let_progressive w mean mg mb
  · exact let_lossless w mean mg mb
  · exact let_arith w mean mg mb
  · exact let_ap w mean mg mb

/-- the call of `_law_is_told` -/
theorem told_at (w : World) {kd : Kind} {mean : ExcName → Option Value} {mg mb : Str → Option Value}
    {dp un : Nat} {gd : Option (List Code)} {cn : Str} {cs : Scope} {a : Addr} {ccd : Value} {A₀ : Around} {base h₀ : Heap} {L : Addr} {m : Str → Option Value} {s : Shared} {Q E : Value → Shared → Prop}
    {news : List (Addr × Obj)} {fr dfr sc dsc pl : Addr} {h1 h2 h3 h4 h5 h6 g1 g2 g3 g4 g5 g6 g7 : Int} {a1 a2 a3 a4 a5 a6 b1 b2 b3 b4 b5 b6 b7 : Tok} {vp vh vw vc vd va : Value} {nf ns nl : Nat}
    {tkd tn t4 t5 t6 t7 : Tok} {nn st en hi lo : Int} {pls : List Value}
    (B : Below A₀ base [] h₀) (XB : (Mine.hd.heap_39 w.params).In base) (TB : Top Mine.hd.view_39 (looseW Mine.hd.view_39 []) mean mg mb base)
    (F : Fr h₀ L s.heap m) (X : (Mine.hd.heap_39 w.params).In h₀) (N : News h₀ L s.heap news) (T : Top Mine.hd.view_39 (looseW Mine.hd.view_39 []) mean mg mb h₀) (hk : cs.kind = .function)
    (m1 : (fr, instObj 158 dfr) ∈ news)
    (m2 : (dfr, dictOf [⟨h1, .str (Str.ofString "kind") a1, .str kd.str tkd⟩, ⟨h2, .str (Str.ofString "precision") a2, vp⟩, ⟨h3, .str (Str.ofString "height") a3, vh⟩, ⟨h4, .str (Str.ofString "width") a4, vw⟩, ⟨h5, .str (Str.ofString "components") a5, vc⟩, ⟨h6, .str (Str.ofString "n") a6, .int nn tn⟩] nf) ∈ news)
    (m3 : (sc, instObj 193 dsc) ∈ news)
    (m4 : (dsc, dictOf [⟨g1, .str (Str.ofString "places") b1, .ref pl⟩, ⟨g2, .str (Str.ofString "dc_slots") b2, vd⟩, ⟨g3, .str (Str.ofString "ac_slots") b3, va⟩, ⟨g4, .str (Str.ofString "start") b4, .int st t4⟩, ⟨g5, .str (Str.ofString "end") b5, .int en t5⟩, ⟨g6, .str (Str.ofString "high") b6, .int hi t6⟩, ⟨g7, .str (Str.ofString "low") b7, .int lo t7⟩] ns) ∈ news)
    (m5 : (pl, listOf pls.toArray nl) ∈ news)
    (hn1 : 1 ≤ nn) (hn2 : nn ≤ 3) (hpl : pls.length ≤ 3) (hd : dp + 10 < recursionLimit) (hu : un + 80 < cLine)
    (ret : ∀ (h' : Heap) (tk' : Nat), Fr h₀ L h' m → News h₀ L h' news → Q (.bool (kd.fn (nn * nn - 1) st en hi lo (decide (pls.length = 1)))) { s with heap := h', toks := tk' }) :
    wpAny (model PySem.Challenge.rw_xm0818_01.row.prog w) (ktrTop dp un gd cn cs L a ccd [] []) (call (.ref 218) [.ref fr, .ref sc]) Q E s :=
  told_any kd w mean mg mb dp un gd cn cs a ccd A₀ base h₀ L m s Q E news fr dfr sc dsc pl h1 h2 h3 h4 h5 h6 g1 g2 g3 g4 g5 g6 g7 a1 a2 a3 a4 a5 a6 b1 b2 b3 b4 b5 b6 b7 vp vh vw vc vd va nf ns nl tkd tn t4 t5 t6 t7 nn st en hi lo pls B XB TB F X N T hk m1 m2 m3 m4 m5 hn1 hn2 hpl hd hu ret

/-- the call of `_law_is_let` -/
theorem let_at (w : World) {kd : Kind} {mean : ExcName → Option Value} {mg mb : Str → Option Value}
    {dp un : Nat} {gd : Option (List Code)} {cn : Str} {cs : Scope} {a : Addr} {ccd : Value} {cl : List (Str × Addr)} {outer : List Env} {A₀ : Around} {base h₀ : Heap} {L : Addr} {m : Str → Option Value} {s : Shared} {Q E : Value → Shared → Prop}
    {news : List (Addr × Obj)} {rw' : Addr} {tkd tl tm t1 t2 t3 t4 : Tok} {last many st en hi lo : Int}
    (B : Below A₀ base outer h₀) (F : Fr h₀ L s.heap m) (X : (Mine.hd.heap_39 w.params).In h₀) (N : News h₀ L s.heap news) (T : Top Mine.hd.view_39 (looseW Mine.hd.view_39 []) mean mg mb h₀) (hk : cs.kind = .function)
    (hr : (rw', tupObj [.int st t1, .int en t2, .int hi t3, .int lo t4]) ∈ news) (hl0 : 0 ≤ last) (hl : last ≤ 8) (hm1 : 1 ≤ many) (hm2 : many ≤ 3) (hd : dp + 10 < recursionLimit) (hu : un + 80 < cLine)
    (ret : ∀ (h' : Heap) (tk' : Nat), Fr h₀ L h' m → News h₀ L h' news → Q (.bool (kd.fn last st en hi lo (decide (many = 1)))) { s with heap := h', toks := tk' }) :
    wpAny (model PySem.Challenge.rw_xm0818_01.row.prog w) (ktrTop dp un gd cn cs L a ccd cl outer) (call (.ref 223) [.str kd.str tkd, .int last tl, .int many tm, .ref rw']) Q E s := by
  obtain ⟨k, rfl⟩ := Int.eq_ofNat_of_zero_le hl0
  exact let_any kd w mean mg mb dp un gd cn cs a ccd cl outer A₀ base h₀ L m s Q E news rw' tkd tl tm t1 t2 t3 t4 k many st en hi lo B F X N T hk hr (by omega) hm1 hm2 hd hu ret

theorem sq_lo {r : Int} (h0 : 0 ≤ r) (h : r ≤ 2) : 0 ≤ (1 + r) * (1 + r) - 1 := by
  have : r = 0 ∨ r = 1 ∨ r = 2 := by omega
  rcases this with rfl | rfl | rfl <;> decide
theorem sq_hi {r : Int} (h0 : 0 ≤ r) (h : r ≤ 2) : (1 + r) * (1 + r) - 1 ≤ 8 := by
  have : r = 0 ∨ r = 1 ∨ r = 2 := by omega
  rcases this with rfl | rfl | rfl <;> decide

section
variable {prog : Program} {w : World} {A : Around} {E : Value → Shared → Prop} {s : Shared} {env : Env} {h₀ : Heap} {body : List Stmt} {Q : Flow → Shared → Prop}

abbrev slObj (x y : Int) (tx ty : Tok) (c : Nat) : Obj := W.listOf [Value.int x tx, Value.int y ty].toArray c
def TurnEnd (h₀ : Heap) (L l I : Addr) (it : Obj) (c : Nat) (s₁ : Shared) (Q : Flow → Shared → Prop) (f : Flow) (s₂ : Shared) : Prop :=
  match f with
  | .ret v => Q (.ret v) s₂
  | .brk => Q .next s₂
  | _ => ∃ h' tk m' news' x y tx ty, s₂ = { s₁ with heap := h', toks := tk } ∧ Fr h₀ L h' m' ∧ News h₀ L h' news' ∧ (l, slObj x y tx ty c) ∈ news' ∧ (I, it) ∈ news' ∧ m' (Str.ofString "sluice") = some (.ref l) ∧ 0 ≤ x ∧ 0 ≤ y ∧ y ≤ 66000

theorem sluice_loop {r l : Addr} {t u v : Tok} {m₀ : Str → Option Value} {news : List (Addr × Obj)} {x : Str} {x0 y0 : Int} {tx0 ty0 : Tok} {c : Nat}
    (hh : A.handled = none) (hr : IsRange s.heap r 0 5 1 t u v) (F : Fr h₀ env.locals s.heap m₀) (N : News h₀ env.locals s.heap news) (hl : (l, slObj x0 y0 tx0 ty0 c) ∈ news) (hm : m₀ (Str.ofString "sluice") = some (.ref l)) (hx : 0 ≤ x0) (hy : 0 ≤ y0) (hy2 : y0 ≤ 66000)
    (turn : ∀ (k : Int) (tk1 : Tok) (m₁ : Str → Option Value) (h : Heap) (tk : Nat) (I : Addr) (it : Obj) (x1 y1 : Int) (tx ty : Tok), 0 ≤ x1 → 0 ≤ y1 → y1 ≤ 66000 → @LT.lt Nat _ l I → Fr h₀ env.locals h (fun z => if z = x then some (.int k tk1) else if z = Str.ofString "sluice" then some (.ref l) else m₁ z) → News h₀ env.locals h [(l, slObj x1 y1 tx ty c), (I, it)] →
      wpAny (model prog w) A (execs body env) (TurnEnd h₀ env.locals l I it c { s with heap := h, toks := tk } Q) E { s with heap := h, toks := tk })
    (done : ∀ m₁ h tk, Fr h₀ env.locals h m₁ → News h₀ env.locals h [] → Q .next { s with heap := h, toks := tk }) :
    wpAny (model prog w) A (pyIter (.ref r)) (fun it s₂ => LoopAtV prog w A h₀ env x body Q E it s₂) E s := by
  have N1 : News h₀ env.locals s.heap [(l, slObj x0 y0 tx0 ty0 c)] := fun p hp => by rw [List.mem_singleton.mp hp]; exact N _ hl
  have hn : Builtin.Range.rangeSize 0 5 1 = ((5 : Nat) : Int) := by decide
  refine wpAny_pyIter_range hr (by decide) ?_
  have W : Walks prog w A s.heap.objs.size [s.heap.objs.size] [s.heap.objs.size] 5 (fun i v => i < 5 ∧ ∃ t, v = .int (0 + i * 1) t)
      (fun i h => IsRangeIter h s.heap.objs.size (0 + (i : Nat) * 1) (((5 : Nat) : Int) - (i : Nat)) 1) := (Walks.range hh _ 0 1 5).bound
  have hnew := next_is_new F
  have hlI : l < s.heap.objs.size := Heap.lt_size (N _ hl).1
  let J : Nat → (Str → Option Value) → List (Addr × Obj) → Prop := fun _ m nx => m (Str.ofString "sluice") = some (.ref l) ∧ ∃ x y tx ty, nx = [(l, slObj x y tx ty c)] ∧ 0 ≤ x ∧ 0 ≤ y ∧ y ≤ 66000
  refine ⟨_, _, _, 5, _, _, m₀, [(l, slObj x0 y0 tx0 ty0 c)], J, rfl, W, ?_, ?_, ?_, (by show IsRangeIter _ _ _ _ _; rw [hn]; simpa using Heap.get?_push_size _ rfl), F.push _, (fun p hp => ⟨Heap.get?_push_of_some _ (N1 p hp).1, (N1 p hp).2⟩), ⟨hm, _, _, _, _, rfl, hx, hy, hy2⟩, ?_, ?_⟩
  · intro hm
    exact absurd F.ns.lt ((List.mem_singleton.mp hm) ▸ Nat.lt_irrefl _)
  · intro b hb
    rw [List.mem_singleton.mp hb]
    exact hnew
  · intro p hp hI
    exact absurd (Heap.lt_size (N1 p hp).1) ((List.mem_singleton.mp hI) ▸ Nat.lt_irrefl _)
  · rintro i v m₁ news₁ s₁ own ⟨hh', tk', rfl⟩ hin ⟨_, t, rfl⟩ ⟨hm1, x1, y1, tx, ty, rfl, h1, h2, h3⟩ hoff hown hget hall hst F₁ N₁
    obtain ⟨it, hst'⟩ : ∃ it, hh'.get? s.heap.objs.size = some it := ⟨_, hst⟩
    have hmem := hall s.heap.objs.size (List.mem_singleton.mpr rfl) hnew _ hst'
    have hone := fun p (hp : p ∈ own) => (show p = (s.heap.objs.size, it) from by
      have e1 := List.mem_singleton.mp (hown p hp)
      have e2 := hget p hp
      rw [e1, hst'] at e2
      exact Prod.ext e1 (Option.some.inj e2).symm)
    have e : m₁ = fun z => if z = Str.ofString "sluice" then some (.ref l) else m₁ z := by
      funext z
      by_cases q : z = Str.ofString "sluice"
      · rw [if_pos q, q, hm1]
      · rw [if_neg q]
    rw [e] at F₁
    refine wpAny_mono (turn _ t m₁ hh' tk' s.heap.objs.size it x1 y1 tx ty h1 h2 h3 hlI F₁ (fun p hp => N₁ p (by
      rcases List.mem_cons.mp hp with rfl | hp
      · exact List.mem_append_right _ (.head _)
      · rw [List.mem_singleton.mp hp]
        exact List.mem_append_left _ hmem))) (fun f s₂ p => ?_) fun _ _ q => q
    have fin : (∃ h' tk m' news' x y tx ty, s₂ = { s with heap := h', toks := tk } ∧ Fr h₀ env.locals h' m' ∧ News h₀ env.locals h' news' ∧ (l, slObj x y tx ty c) ∈ news' ∧ (s.heap.objs.size, it) ∈ news' ∧ m' (Str.ofString "sluice") = some (.ref l) ∧ 0 ≤ x ∧ 0 ≤ y ∧ y ≤ 66000) →
        LoopStepU h₀ env.locals [s.heap.objs.size] own (J (i + 1)) { s with heap := hh', toks := tk' } .next s₂ := by
      rintro ⟨h', tk, m', news', x, y, tx, ty, e, F', N', hl', ho', hm', q1, q2, q3⟩
      refine ⟨rfl, h', tk, m', [(l, slObj x y tx ty c)], e, F', fun p hp => N' p ?_, fun p hp => ?_, hm', x, y, tx, ty, rfl, q1, q2, q3⟩
      · rcases List.mem_append.mp hp with hp | hp
        · rw [hone p hp]; exact ho'
        · rw [List.mem_singleton.mp hp]; exact hl'
      · rw [List.mem_singleton.mp hp]
        exact hoff (l, slObj x1 y1 _ _ c) (.head _)
    cases f with
    | ret v => exact .ret p
    | brk => exact .brk p
    | next => exact .next (fin p)
    | cont => exact .cont (fin p)
  · rintro h' tk m' news' F' N' _ _
    exact done m' h' tk F' fun p hp => nomatch hp

end

theorem upd_at {l : Addr} {o o' : Obj} {post : List (Addr × Obj)} (h2 : ∀ p ∈ post, p.1 ≠ l) : ∀ {pre : List (Addr × Obj)}, (∀ p ∈ pre, p.1 ≠ l) → Upd l o o' (pre ++ (l, o) :: post) (pre ++ (l, o') :: post)
  | [], _ => .head h2
  | p :: _, h1 => .tail (h1 p (.head _)) (upd_at h2 fun q hq => h1 q (.tail _ hq))
/-- the call of `_law_board`, whatever lies beside the list -/
theorem board_at (w : World) {mean : ExcName → Option Value} {mg mb : Str → Option Value}
    {dp un : Nat} {gd : Option (List Code)} {cn : Str} {cs : Scope} {a : Addr} {ccd : Value} {cl : List (Str × Addr)} {outer : List Env} {A₀ : Around} {base h₀ : Heap} {L : Addr} {m : Str → Option Value} {s : Shared} {Q E : Value → Shared → Prop}
    {news : List (Addr × Obj)} {nw : Obj → List (Addr × Obj)} {l : Addr} {x y k : Int} {tx ty tk : Tok} {c : Nat}
    (B : Below A₀ base outer h₀) (F : Fr h₀ L s.heap m) (X : (Mine.hd.heap_39 w.params).In h₀) (N : News h₀ L s.heap news)
    (T : Top Mine.hd.view_39 (looseW Mine.hd.view_39 []) mean mg mb h₀) (hk : cs.kind = .function)
    (hm : (l, slObj x y tx ty c) ∈ news) (U : UpdF l (slObj x y tx ty c) news nw) (hx : 0 ≤ x) (hy : 0 ≤ y) (hy2 : y ≤ 66000) (k0 : 0 < k) (k9 : k ≤ 9)
    (hd : dp + 1 < recursionLimit) (hu : un + 8 < cLine)
    (ret : ∀ (r x' y' : Int) (t tx' ty' : Tok) (h' : Heap) (tk' : Nat), 0 ≤ r → r < k → 0 ≤ x' → 0 ≤ y' → y' ≤ 66000 →
      Fr h₀ L h' m → News h₀ L h' (nw (slObj x' y' tx' ty' c)) → Q (.int r t) { s with heap := h', toks := tk' }) :
    wpAny (model PySem.Challenge.rw_xm0818_01.row.prog w) (ktrTop dp un gd cn cs L a ccd cl outer) (call (.ref 211) [.ref l, .int k tk]) Q E s := by
  obtain ⟨pre, post, e1, e2, h1, h2⟩ := U.split
  subst e1
  refine board w mean mg mb dp un gd cn cs a ccd cl outer A₀ base h₀ L m s Q E nw l x y k tx ty tk c B F X (by rw [e2]; exact N) T hk (fun o => by rw [e2]; exact List.mem_append_right _ (.head _)) (fun o o' => ?_) hx hy hy2 k0 k9 hd hu ret
  rw [e2, e2]
  exact upd_at h2 h1
end Mine

-- part: TailDef
namespace Mine
/-- the law's own body and scope, read out of the row's program -/
def lawParts : List PySem.Stmt × Option PySem.Scope := match (PySem.Challenge.pw_xm0818_01.main.body.drop 21 : List PySem.Stmt) with
  | PySem.Stmt.FunctionDef _ _ body _ _ _ sc _ _ _ :: _ => (body, some sc)
  | _ => ([], none)
/-- one turn of the law's loop; its last three statements; the comprehension in them -/
def turnBody : List PySem.Stmt := match lawParts.1 with
  | _ :: PySem.Stmt.For _ _ b _ _ :: _ => b
  | _ => []
def turnTail : List PySem.Stmt := turnBody.drop 7
def turnComp : PySem.Expr := match turnTail with
  | .Assign _ (.Call _ (_ :: _ :: _ :: _ :: c :: _) _ _) _ :: _ => c
  | _ => .Name (Str.ofString "k") ⟨0, 0, 0, 0⟩
theorem three {r : Int} (h0 : 0 ≤ r) (h : r < 3) : r = 0 ∨ r = 1 ∨ r = 2 := by omega
theorem rng_small {k : Int} (h1 : 1 ≤ k) (h2 : k ≤ 3) : Builtin.Range.small 0 k 1 = true := by
  have : k = 1 ∨ k = 2 ∨ k = 3 := by omega
  rcases this with rfl | rfl | rfl <;> decide
theorem rng_size {k : Int} (h1 : 1 ≤ k) (h2 : k ≤ 3) : Builtin.Range.rangeSize 0 k 1 = ((k.toNat : Nat) : Int) := by
  have : k = 1 ∨ k = 2 ∨ k = 3 := by omega
  rcases this with rfl | rfl | rfl <;> decide
theorem rng_fits {k : Int} (h2 : k ≤ 3) : k.toNat ≤ sizeLine := Nat.le_trans (show k.toNat ≤ 3 by omega) (Nat.le_of_ble_eq_true rfl)
theorem map_at {m : Str → Option Value} {x : Str} {v : Value} (h : m x = some v) : m = fun z => if z = x then some v else m z := by
  funext z
  by_cases q : z = x
  · rw [if_pos q, q, h]
  · rw [if_neg q]
end Mine

-- part: Comps
namespace Mine
def AllY (R : Value → List (Addr × Obj) → Prop) (news : List (Addr × Obj)) : Prop := ∀ y, R y news
theorem AllY.one {R : Value → List (Addr × Obj) → Prop} {news : List (Addr × Obj)} {y : Value} (h : AllY R news) : R y news := h y
theorem comp_end {h₀ : Heap} {L I C D : Addr} {m : Str → Option Value} {s₁ : Shared} {oI oC oD : Obj} {S : List (Addr × Obj) → Prop} {rest : Value → List (Addr × Obj) → Prop} {y : Value} {h' : Heap} {tk : Nat} {all news' : List (Addr × Obj)}
    (r : rest y news') (F : Fr h₀ L h' m) (N : News h₀ L h' all) (sub : ∀ p ∈ (I, oI) :: (C, oC) :: (D, oD) :: news', p ∈ all) (off : LCg.Off3 I C D news') (hS : S news') :
    LCg.CompEnd h₀ L m s₁ I oI C oC D oD S rest y { s₁ with heap := h', toks := tk } := LCg.CompEnd.intro F N news' sub off hS r
theorem rest_all {prog : Program} {w : World} {A : Around} {h₀ : Heap} {L : Addr} {m : Str → Option Value} {env : Env} {elt : Expr} {x : Str} {scope : Scope} {cl : List (Str × Addr)} {s : Shared} {S : List (Addr × Obj) → Prop} {P : Nat → Value → Prop} {Fin : List Value → List (Addr × Obj) → Prop} {news : List (Addr × Obj)}
    (h0 : ∀ ys, Fin ys news)
    (h1 : ∀ (R : Value → List (Addr × Obj) → Prop) (i : Nat) (ys : List Value) v I oI C oC D m₂ h tk (E' : Value → Shared → Prop), AllY R news → P i v → LCg.NsObj oC m₂ → m₂ x = some v → Fr h₀ L h m → News h₀ L h ((I, oI) :: (C, oC) :: (D, LCg.lst ys) :: news) → LCg.Off3 I C D news → ((@Ne Nat I C) ∧ (@Ne Nat I D) ∧ (@Ne Nat C D)) →
      wpAny (model prog w) A (eval elt (compEnvC scope cl C env)) (LCg.CompEnd h₀ L m { s with heap := h, toks := tk } I oI C oC D (LCg.lst ys) S R) E' { s with heap := h, toks := tk }) :
    ∀ n i ys, LCg.CompRest prog w A h₀ L m env elt x scope cl s S P Fin n i ys news := by
  intro n
  induction n with
  | zero => exact fun i ys => LCg.CompRest.zero (h0 ys)
  | succ n ih => exact fun i ys => LCg.CompRest.succ fun v I oI C oC D m₂ h tk E' a1 a2 a3 a4 a5 a6 a7 => h1 _ i ys v I oI C oC D m₂ h tk E' (fun y => ih (i + 1) (ys ++ [y])) a1 a2 a3 a4 a5 a6 a7
set_option maxHeartbeats 8000000 in
/-- the comprehension of the components: whatever it hands back, the frame and the two objects stand -/
theorem comps (w : World) (mean : ExcName → Option Value) (mg mb : Str → Option Value) (sc : Scope) (hsc : lawParts.2 = some sc) (h₀ : Heap) (L fa : Addr) (cd : Value) (s : Shared) (m : Str → Option Value) (Q E : Value → Shared → Prop)
    (many : Int) (tm : Tok) (l I : Addr) (o it : Obj) (B : Below callerA h₀ [] h₀) (X : (Mine.hd.heap_39 w.params).In h₀) (T : Top Mine.hd.view_39 (looseW Mine.hd.view_39 []) mean mg mb h₀)
    (F : Fr h₀ L s.heap m) (hmm : m (Str.ofString "many") = some (.int many tm)) (N : News h₀ L s.heap [(l, o), (I, it)]) (hI : @LT.lt Nat _ l I) (hm1 : 1 ≤ many) (hm2 : many ≤ 3)
    (ret : ∀ D h' tk', Fr h₀ L h' m → News h₀ L h' [(l, o), (I, it)] → Q (.ref D) { s with heap := h', toks := tk' }) :
    wpAny (model PySem.Challenge.rw_xm0818_01.row.prog w) (callerA.deeper (envOf (Str.ofString "law") sc L fa cd)) (eval turnComp (envOf (Str.ofString "law") sc L fa cd)) Q E s := by
  have e := Option.some.inj (show some _ = some sc from hsc)
  subst e
  rw [map_at hmm] at F ret
  clear hmm
  refine LCg.ListComp_U (F₀ := F) (by rfl) (by decide) (by rfl) (by decide) (by rfl) ?_
  k_with_none
  k_with "CompSrc Call nil ref" => (k_here; k_dflt (refine LCg.CompSrc.range (by rfl) (by k_asm) (by k_asm) (by assumption) (rng_small (by assumption) (by assumption)) (rng_size (by assumption) (by assumption)) (rng_fits (by assumption)) ?_))
  k_with "CompEnd ref" => (refine' comp_end (by exact AllY.one (by assumption)) (by k_asm) (by k_asm) (by lcg_sub) (by lcg_off) (by exact True.intro))
  w_top off
  k_steps
  refine rest_all ?_ ?_ _ _ _
  · intro ys
    unfold LCg.FinE
    intro D h tk F' N' _
    exact ret D h tk F' fun p hp => N' p (List.mem_cons_of_mem _ hp)
  · intro R i ys v' I' oI' C' oC' D' m' h' tk' E' hR hv' hC' hx' F' N' off' ne'
    obtain ⟨t9, hv9⟩ := hv'
    subst hv9
    simp only [LCg.Off3, and_true] at off'
    clear ret
    w_top off
    k_steps

end Mine

-- part: Judge
namespace Mine
def turnIf : List PySem.Stmt := turnBody.drop 9
local macro_rules | `(tactic| k_mem) => `(tactic| assumption)
local macro_rules | `(tactic| news_mem) => `(tactic| assumption)
set_option maxHeartbeats 8000000 in
theorem judge (w : World) (mean : ExcName → Option Value) (mg mb : Str → Option Value) (sc : Scope) (hsc : lawParts.2 = some sc) (h₀ : Heap) (L fa : Addr) (cd : Value) (s : Shared) (m : Str → Option Value) (Q : Flow → Shared → Prop) (E : Value → Shared → Prop)
    (q : Kind) (sd many st en lo hi : Int) (tq t1 t2 t3 t4 t5 t6 t7 : Tok) (B : Below callerA h₀ [] h₀) (X : (Mine.hd.heap_39 w.params).In h₀) (T : Top Mine.hd.view_39 (looseW Mine.hd.view_39 []) mean mg mb h₀)
    {news : List (Addr × Obj)} {fr dfr sn dsc pl : Addr} {h1 h2 h3 h4 h5 h6 g1 g2 g3 g4 g5 g6 g7 : Int} {a1 a2 a3 a4 a5 a6 b1 b2 b3 b4 b5 b6 b7 : Tok} {vp vh vw vc vd va : Value} {nf ns nl : Nat} {pls : List Value}
    (F : Fr h₀ L s.heap (fun z => if z = Str.ofString "scan" then some (.ref sn) else if z = Str.ofString "frame" then some (.ref fr) else if z = Str.ofString "high" then some (.int hi t7) else if z = Str.ofString "low" then some (.int lo t6) else if z = Str.ofString "end" then some (.int en t5) else if z = Str.ofString "start" then some (.int st t4) else if z = Str.ofString "last" then some (.int (sd * sd - 1) t3) else if z = Str.ofString "side" then some (.int sd t2) else if z = Str.ofString "many" then some (.int many t1) else if z = Str.ofString "kind" then some (.str q.str tq) else m z))
    (N : News h₀ L s.heap news)
    (m1 : (fr, instObj 158 dfr) ∈ news)
    (m2 : (dfr, dictOf [⟨h1, .str (Str.ofString "kind") a1, .str q.str tq⟩, ⟨h2, .str (Str.ofString "precision") a2, vp⟩, ⟨h3, .str (Str.ofString "height") a3, vh⟩, ⟨h4, .str (Str.ofString "width") a4, vw⟩, ⟨h5, .str (Str.ofString "components") a5, vc⟩, ⟨h6, .str (Str.ofString "n") a6, .int sd t2⟩] nf) ∈ news)
    (m3 : (sn, instObj 193 dsc) ∈ news)
    (m4 : (dsc, dictOf [⟨g1, .str (Str.ofString "places") b1, .ref pl⟩, ⟨g2, .str (Str.ofString "dc_slots") b2, vd⟩, ⟨g3, .str (Str.ofString "ac_slots") b3, va⟩, ⟨g4, .str (Str.ofString "start") b4, .int st t4⟩, ⟨g5, .str (Str.ofString "end") b5, .int en t5⟩, ⟨g6, .str (Str.ofString "high") b6, .int hi t7⟩, ⟨g7, .str (Str.ofString "low") b7, .int lo t6⟩] ns) ∈ news)
    (m5 : (pl, listOf pls.toArray nl) ∈ news)
    (hs1 : 1 ≤ sd) (hs2 : sd ≤ 3) (hm1 : 1 ≤ many) (hm2 : many ≤ 3) (hl0 : 0 ≤ sd * sd - 1) (hl8 : sd * sd - 1 ≤ 8) (hpl : pls.length = many.toNat)
    (ret : ∀ h' tk', Fr h₀ L h' (fun z => if z = Str.ofString "scan" then some (.ref sn) else if z = Str.ofString "frame" then some (.ref fr) else if z = Str.ofString "high" then some (.int hi t7) else if z = Str.ofString "low" then some (.int lo t6) else if z = Str.ofString "end" then some (.int en t5) else if z = Str.ofString "start" then some (.int st t4) else if z = Str.ofString "last" then some (.int (sd * sd - 1) t3) else if z = Str.ofString "side" then some (.int sd t2) else if z = Str.ofString "many" then some (.int many t1) else if z = Str.ofString "kind" then some (.str q.str tq) else m z) → News h₀ L h' news → Q .next { s with heap := h', toks := tk' }) :
    wpAny (model PySem.Challenge.rw_xm0818_01.row.prog w) (callerA.deeper (envOf (Str.ofString "law") sc L fa cd)) (execs turnIf (envOf (Str.ofString "law") sc L fa cd)) Q E s := by
  have e := Option.some.inj (show some _ = some sc from hsc)
  subst e
  refine wpAny_execs_cons ?_
  k_with_none
  k_with "call ref cons nil" => (k_here; k_dflt (refine' told_at _ (by k_asm) (by k_asm) (by k_asm) (by k_asm) (by k_asm) (by k_asm) (by k_asm) (by exact rfl) (by k_mem) (by k_mem) (by k_mem) (by k_mem) (by k_mem) (by omega) (by omega) (by omega) (by ktr_room) (by ktr_units) ?_); intros)
  k_with "call ref cons nil" => (k_here; k_dflt (refine' let_at _ (by k_asm) (by k_asm) (by k_asm) (by k_asm) (by k_asm) (by exact rfl) (by exact List.Mem.head _) (by assumption) (by assumption) (by omega) (by omega) (by ktr_room) (by ktr_units) ?_); intros)
  w_top off
  k_steps
  all_goals first
    | (exfalso; (rename ((_ != _) = true) => h9); rw [show decide (pls.length = 1) = decide (many = 1) from decide_eq_decide.mpr (by omega), bne_self_eq_false] at h9; exact Bool.noConfusion h9)
    | (refine ret _ _ (by k_asm) (fun p hp => ?_); (rename News _ _ _ (_ :: _) => N9); exact N9 p (List.mem_cons_of_mem _ hp))
end Mine

-- part: Tail
namespace Mine
theorem vs_len {vs : List Value} {k : Int} (h : IntsAre vs (rangeKs 0 (k - 0).toNat)) : vs.length = k.toNat := by
  rw [IntsAre.length h, rangeKs_length]; omega
set_option maxHeartbeats 8000000 in
theorem tail (w : World) (mean : ExcName → Option Value) (mg mb : Str → Option Value) (sc : Scope) (hsc : lawParts.2 = some sc) (h₀ : Heap) (L fa : Addr) (cd : Value) (s : Shared) (m : Str → Option Value) (Q : Flow → Shared → Prop) (E : Value → Shared → Prop)
    (q : Kind) (k sd many st en lo hi : Int) (tk1 tq t1 t2 t3 t4 t5 t6 t7 : Tok) (l I : Addr) (o it : Obj) (B : Below callerA h₀ [] h₀) (X : (Mine.hd.heap_39 w.params).In h₀) (T : Top Mine.hd.view_39 (looseW Mine.hd.view_39 []) mean mg mb h₀)
    (F : Fr h₀ L s.heap (fun z => if z = Str.ofString "high" then some (.int hi t7) else if z = Str.ofString "low" then some (.int lo t6) else if z = Str.ofString "end" then some (.int en t5) else if z = Str.ofString "start" then some (.int st t4) else if z = Str.ofString "last" then some (.int (sd * sd - 1) t3) else if z = Str.ofString "side" then some (.int sd t2) else if z = Str.ofString "many" then some (.int many t1) else if z = Str.ofString "kind" then some (.str q.str tq) else if z = Str.ofString "turn" then some (.int k tk1) else if z = Str.ofString "sluice" then some (.ref l) else m z))
    (hI : @LT.lt Nat _ l I) (N : News h₀ L s.heap [(l, o), (I, it)])
    (hs1 : 1 ≤ sd) (hs2 : sd ≤ 3) (hm1 : 1 ≤ many) (hm2 : many ≤ 3) (hl0 : 0 ≤ sd * sd - 1) (hl8 : sd * sd - 1 ≤ 8)
    (ret : ∀ h' tk' m' news', Fr h₀ L h' m' → News h₀ L h' news' → (l, o) ∈ news' → (I, it) ∈ news' → m' (Str.ofString "sluice") = some (.ref l) → Q .next { s with heap := h', toks := tk' }) :
    wpAny (model PySem.Challenge.rw_xm0818_01.row.prog w) (callerA.deeper (envOf (Str.ofString "law") sc L fa cd)) (execs turnTail (envOf (Str.ofString "law") sc L fa cd)) Q E s := by
  have e := Option.some.inj (show some _ = some sc from hsc)
  subst e
  refine wpAny_execs_cons ?_
  k_with_none
  k_with "eval ListComp Call cons" => (k_here; k_dflt (refine' comps _ _ _ _ _ (by assumption) _ _ _ _ _ _ _ _ _ _ _ _ _ _ (by k_asm) (by k_asm) (by k_asm) (by k_asm) (by exact rfl) (by k_asm) (by assumption) (by assumption) (by assumption) ?_); intro D' h' tk' F' N')
  k_with "execs cons If nil" => (k_here; k_dflt (refine' judge _ _ _ _ _ (by assumption) _ _ _ _ _ _ _ _ _ _ _ _ _ _ _ _ _ _ _ _ _ _ _ (by k_asm) (by k_asm) (by k_asm) (by k_asm) (by k_asm) (by k_mem) (by k_mem) (by k_mem) (by k_mem) (by k_mem) (by assumption) (by assumption) (by assumption) (by assumption) (by assumption) (by assumption) (by exact vs_len (by assumption)) ?_); intro h' tk' F' N')
  w_top off
  k_steps
  all_goals (refine' ret _ _ _ _ ?F ?N ?m1 ?m2 ?m3; (case F => k_asm); (case N => k_asm); (case m1 => k_mem); (case m2 => k_mem); (case m3 => exact rfl))
end Mine

-- part: Turn
namespace Mine
section
variable {prog : Program} {w : World} {A : Around} {E : Value → Shared → Prop} {s : Shared} {h₀ : Heap} {L : Addr}
theorem menu {T : Addr} {vs : List Value} {news : List (Addr × Obj)} {value slice : PySem.Expr} {k n : Int} {u : Tok} {Q : Value → Shared → Prop} (P : Value → Prop) (N : News h₀ L s.heap news) (hT : (T, tupObj vs) ∈ news) (h0 : 0 ≤ k) (h1 : k < n) (hn : n = vs.length)
    (hl : vs.length ≤ 64) (hP : ∀ v ∈ vs, P v) (h : ∀ v, P v → Q v s)
    (hs : subscripted slice false (.ref T) (.int k u) = operate [.ref T, .int k u] (getItem (.ref T) (.int k u)) := by with_unfolding_all rfl) :
    wpAny (model prog w) A (subscriptTail value slice (.ref T) (.int k u)) Q E s := by
  have hk : k.toNat < vs.length := by omega
  subst hn
  exact item_tupleT (l := vs) (j := k.toNat) (x := vs[k.toNat]) (N.isTup hT) (by omega) (by omega) (seqIndex_of h0 h1) (by simp [hk]) (h _ (hP _ (List.getElem_mem hk))) hs
theorem menu_int {T : Addr} {vs : List Value} {news : List (Addr × Obj)} {value slice : PySem.Expr} {k n : Int} {u : Tok} {Q : Value → Shared → Prop} (N : News h₀ L s.heap news) (hT : (T, tupObj vs) ∈ news) (h0 : 0 ≤ k) (h1 : k < n) (hn : n = vs.length)
    (hl : vs.length ≤ 64) (hP : ∀ v ∈ vs, ∃ z t, v = .int z t) (h : ∀ z t, Q (.int z t) s)
    (hs : subscripted slice false (.ref T) (.int k u) = operate [.ref T, .int k u] (getItem (.ref T) (.int k u)) := by with_unfolding_all rfl) :
    wpAny (model prog w) A (subscriptTail value slice (.ref T) (.int k u)) Q E s :=
  menu (fun v => ∃ z t, v = .int z t) N hT h0 h1 hn hl hP (fun v ⟨z, t, e⟩ => e ▸ h z t) hs
theorem menu_kind {T : Addr} {vs : List Value} {news : List (Addr × Obj)} {value slice : PySem.Expr} {k n : Int} {u : Tok} {Q : Value → Shared → Prop} (N : News h₀ L s.heap news) (hT : (T, tupObj vs) ∈ news) (h0 : 0 ≤ k) (h1 : k < n) (hn : n = vs.length)
    (hl : vs.length ≤ 64) (hP : ∀ v ∈ vs, ∃ (q : Kind) (t : Tok), v = .str q.str t) (h : ∀ (q : Kind) (t : Tok), Q (.str q.str t) s)
    (hs : subscripted slice false (.ref T) (.int k u) = operate [.ref T, .int k u] (getItem (.ref T) (.int k u)) := by with_unfolding_all rfl) :
    wpAny (model prog w) A (subscriptTail value slice (.ref T) (.int k u)) Q E s :=
  menu (fun v => ∃ (q : Kind) (t : Tok), v = .str q.str t) N hT h0 h1 hn hl hP (fun v ⟨z, t, e⟩ => e ▸ h z t) hs
theorem all_nil {P : Value → Prop} : ∀ v ∈ ([] : List Value), P v := fun _ h => nomatch h
theorem all_cons {P : Value → Prop} {v : Value} {vs : List Value} (h : P v) (hs : ∀ v ∈ vs, P v) : ∀ u ∈ v :: vs, P u := fun u hu => by
  rcases List.mem_cons.mp hu with rfl | hu
  · exact h
  · exact hs _ hu
end
/-- a statement's start: the heap and the tokens by new letters, of the ledger what is kept -/
theorem cut_at {M : Model} {A : Around} {h₀ h : Heap} {L : Addr} {m : Str → Option Value} {news news' : List (Addr × Obj)} {ss : List PySem.Stmt} {env : Env} {Q : Flow → Shared → Prop} {E : Value → Shared → Prop} {s : Shared} {tk : Nat}
    (F : Fr h₀ L h m) (N : News h₀ L h news) (sub : ∀ p ∈ news', p ∈ news)
    (k : ∀ (h : Heap) (tk : Nat), Fr h₀ L h m → News h₀ L h news' → wpAny M A (execs ss env) Q E { s with heap := h, toks := tk }) : wpAny M A (execs ss env) Q E { s with heap := h, toks := tk } :=
  k h tk F fun p hp => N p (sub p hp)
theorem cut3 {M : Model} {A : Around} {h₀ h : Heap} {L : Addr} {m : Str → Option Value} {p q r : Addr × Obj} {ss : List PySem.Stmt} {env : Env} {Q : Flow → Shared → Prop} {E : Value → Shared → Prop} {s : Shared} {tk : Nat}
    (F : Fr h₀ L h m) (N : News h₀ L h [p, q, r])
    (k : ∀ (h : Heap) (tk : Nat), Fr h₀ L h m → News h₀ L h [q, r] → wpAny M A (execs ss env) Q E { s with heap := h, toks := tk }) : wpAny M A (execs ss env) Q E { s with heap := h, toks := tk } :=
  cut_at F N (fun _ hp => List.mem_cons_of_mem _ hp) k
theorem cut2 {M : Model} {A : Around} {h₀ h : Heap} {L : Addr} {m : Str → Option Value} {q r : Addr × Obj} {ss : List PySem.Stmt} {env : Env} {Q : Flow → Shared → Prop} {E : Value → Shared → Prop} {s : Shared} {tk : Nat}
    (F : Fr h₀ L h m) (N : News h₀ L h [q, r])
    (k : ∀ (h : Heap) (tk : Nat), Fr h₀ L h m → News h₀ L h [q, r] → wpAny M A (execs ss env) Q E { s with heap := h, toks := tk }) : wpAny M A (execs ss env) Q E { s with heap := h, toks := tk } :=
  cut_at F N (fun _ hp => hp) k
theorem two {r : Int} (h : r < 3) : r ≤ 2 := by omega
theorem side_lo {r : Int} (h : 0 ≤ r) : 1 ≤ 1 + r := by omega
theorem side_hi {r : Int} (h : r < 3) : 1 + r ≤ 3 := by omega
theorem news_sub {h₀ h : Heap} {L : Addr} {news news' : List (Addr × Obj)} (N : News h₀ L h news) (hs : ∀ p ∈ news', p ∈ news) : News h₀ L h news' := fun p hp => N p (hs p hp)


set_option maxHeartbeats 8000000 in
theorem turn (w : World) (mean : ExcName → Option Value) (mg mb : Str → Option Value) (sc : Scope) (hsc : lawParts.2 = some sc) (h₀ : Heap) (L fa : Addr) (cd : Value) (s : Shared) (m₁ : Str → Option Value) (Q : Flow → Shared → Prop) (E : Value → Shared → Prop)
    (k : Int) (tk1 : Tok) (l I : Addr) (it : Obj) (x1 y1 : Int) (tx ty : Tok) (c : Nat) (h : Heap) (tk : Nat) (B : Below callerA h₀ [] h₀) (X : (Mine.hd.heap_39 w.params).In h₀) (T : Top Mine.hd.view_39 (looseW Mine.hd.view_39 []) mean mg mb h₀)
    (hx : 0 ≤ x1) (hy : 0 ≤ y1) (hy2 : y1 ≤ 66000) (hI : @LT.lt Nat _ l I) (F : Fr h₀ L h (fun z => if z = Str.ofString "turn" then some (.int k tk1) else if z = Str.ofString "sluice" then some (.ref l) else m₁ z)) (N : News h₀ L h [(l, slObj x1 y1 tx ty c), (I, it)]) :
    wpAny (model PySem.Challenge.rw_xm0818_01.row.prog w) (callerA.deeper (envOf (Str.ofString "law") sc L fa cd)) (execs turnBody (envOf (Str.ofString "law") sc L fa cd)) (TurnEnd h₀ L l I it c { s with heap := h, toks := tk } Q) E { s with heap := h, toks := tk } := by
  have e := Option.some.inj (show some _ = some sc from hsc)
  subst e
  refine wpAny_execs_cons ?_
  k_with_none
  k_with "MENUINT" => first | exact all_nil | (refine all_cons ⟨_, _, rfl⟩ ?_; walk_at "MENUINT")
  k_with "MENUKIND" => exact all_cons ⟨.ba, _, rfl⟩ (all_cons ⟨.ex, _, rfl⟩ (all_cons ⟨.pr, _, rfl⟩ (all_cons ⟨.ll, _, rfl⟩ (all_cons ⟨.ar, _, rfl⟩ (all_cons ⟨.ap, _, rfl⟩ all_nil)))))
  k_with "subscriptTail Tuple cons Call ref int" => (k_here; (refine' menu_int (by k_asm) (by k_mem) (by assumption) (by assumption) (by exact rfl) (by exact Nat.le_of_ble_eq_true rfl) (by walk_at "MENUINT") ?_); intros)
  k_with "subscriptTail Tuple cons Call ref int" => (k_here; (refine' menu_kind (by k_asm) (by k_mem) (by assumption) (by assumption) (by exact rfl) (by exact Nat.le_of_ble_eq_true rfl) (by walk_at "MENUKIND") ?_); intros)
  k_with "call ref cons nil" => (k_here; k_dflt (refine' board_at _ (by k_asm) (by k_asm) (by k_asm) (by k_asm) (by k_asm) (by exact rfl) (by k_mem) (by k_updF) (by assumption) (by assumption) (by assumption) (by decide) (by decide) (by ktr_room) (by ktr_units) ?_); intros)
  k_with "execs cons Assign cons" => (k_here; (fail_if_success (with_reducible show wpAny _ _ (execs (PySem.Stmt.Assign [PySem.Expr.Name (Str.ofString "frame") _] _ _ :: _) _) _ _ _)); (try dsimp only); (first | (refine' cut3 (by k_asm) (by k_asm) ?_) | (refine' cut2 (by k_asm) (by k_asm) ?_)); intro h' tk' F' N'; (with_reducible refine wpAny_execs_cons ?_); try dsimp only)
  k_with "execs cons Assign cons" => (k_here; (with_reducible show wpAny _ _ (execs (PySem.Stmt.Assign [PySem.Expr.Name (Str.ofString "frame") _] _ _ :: _) _) _ _ _); k_dflt (refine' tail _ _ _ _ _ (by assumption) _ _ _ _ _ _ _ _ _ _ _ _ _ _ _ _ _ _ _ _ _ _ _ _ _ _ _ _ _ (by k_asm) (by k_asm) (by k_asm) (by k_asm) (by assumption) (by exact news_sub (by k_asm) (by lcg_sub)) (by exact side_lo (by assumption)) (by exact side_hi (by assumption)) (by exact side_lo (by assumption)) (by exact side_hi (by assumption)) (by exact sq_lo (by assumption) (two (by assumption))) (by exact sq_hi (by assumption) (two (by assumption))) ?_); intro h' tk' m' news' F' N' e1' e2' e3'; exact ⟨_, _, _, _, _, _, _, _, rfl, F', N', e1', e2', e3', by assumption, by assumption, by assumption⟩)
  w_top off
  k_steps

end Mine

-- part: Walk
namespace Mine
theorem y_lo {z : Int} : 0 ≤ z.fmod 65141 + 139 := by
  have := fm_lo (a := z) (k := 65141) (by decide)
  omega
theorem y_hi {z : Int} : z.fmod 65141 + 139 ≤ 66000 := by
  have := fm_hi (a := z) (k := 65141) (by decide)
  omega
set_option maxHeartbeats 8000000 in
theorem W1 : PySem.Challenge.rw_xm0818_01.Holds := Mine.hd (by
  k_with_none
  k_with "SLFACT" => first | assumption | exact y_lo | exact y_hi | decide | omega
  k_with "TURN" => (intro k tk1 m₁ h tk I it x1 y1 tx ty hx hy hy2 hI F N; refine' turn _ _ _ _ _ (by exact rfl) _ _ _ _ _ _ _ _ _ _ _ _ _ _ _ _ _ _ _ _ (by k_asm) (by k_asm) (by k_asm) (by exact hx) (by exact hy) (by exact hy2) (by exact hI) (by exact F) (by exact N))
  k_with "pyIter ref" => (k_here; k_dflt (refine' sluice_loop (by exact rfl) (by assumption) (by k_asm) (by k_asm) (by k_mem) (by exact rfl) (by walk_at "SLFACT") (by walk_at "SLFACT") (by walk_at "SLFACT") (by walk_at "TURN") ?_))
  w_top off
  w_strict (k_go0; (all_goals try k_fold); k_steps))
end Mine

theorem PySem.Challenge.cw_xm0818_01_holds : PySem.Challenge.rw_xm0818_01.Holds := by
  exact Mine.W1
