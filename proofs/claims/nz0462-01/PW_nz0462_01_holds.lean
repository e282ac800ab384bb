import PyProof.Rows.All
import Wide.All
import OpenK.AllK
import Wide.FinOn
import Lean
import PySem.Challenge.RW_nz0462_01
set_option Elab.async false
set_option linter.all false
namespace Mine
section
open PySem PySem.W PyProof.Rows
set_option maxRecDepth 100000 in
set_option maxHeartbeats 8000000 in
open_top hd for PySem.Challenge.rw_nz0462_01
end
section
open PySem PySem.W PyProof.Rows PyProof.V
noncomputable abbrev PR := PySem.Challenge.rw_nz0462_01.row.prog
noncomputable abbrev VW := hd.view_39
noncomputable abbrev LO : List Str := looseW hd.view_39 []
theorem lt4 : ∀ i : Nat, i < 4 → i = 0 ∨ i = 1 ∨ i = 2 ∨ i = 3 := by decide
theorem lt3 : ∀ i : Nat, i < 3 → i = 0 ∨ i = 1 ∨ i = 2 := by decide
theorem lt4p : ∀ i : Nat, i < 4 → 1 ≤ i → i = 1 ∨ i = 2 ∨ i = 3 := by decide
theorem lt44 : ∀ j : Nat, j < 4 → ∀ i : Nat, i < j → i = 0 ∧ j = 1 ∨ i = 0 ∧ j = 2 ∨ i = 0 ∧ j = 3 ∨ i = 1 ∧ j = 2 ∨ i = 1 ∧ j = 3 ∨ i = 2 ∧ j = 3 := by decide
theorem el2 {α : Type} {a x y : α} (h : a ∈ [x, y]) : a = x ∨ a = y := by simpa using h
theorem el3 {α : Type} {a x y z : α} (h : a ∈ [x, y, z]) : a = x ∨ a = y ∨ a = z := by simpa using h
theorem el4 {α : Type} {a x y z u : α} (h : a ∈ [x, y, z, u]) : a = x ∨ a = y ∨ a = z ∨ a = u := by simpa using h
theorem room_lt {dp c k : Nat} (h : dp ≤ c) (e : Nat.ble (c + k + 1) 1000 = true) : dp + k < 1000 := Nat.lt_of_le_of_lt (Nat.add_le_add_right h k) (Nat.le_of_ble_eq_true e)
theorem unit_lt {un c k : Nat} (h : un ≤ c) (e : Nat.ble (c + k + 1) 9900 = true) : un + k < 9900 := Nat.lt_of_le_of_lt (Nat.add_le_add_right h k) (Nat.le_of_ble_eq_true e)
theorem room_le {dp c k n : Nat} (h : dp ≤ c) (e : Nat.ble (c + k) n = true) : dp + k ≤ n := Nat.le_trans (Nat.add_le_add_right h k) (Nat.le_of_ble_eq_true e)
structure ED where
  (h1 h2 h3 h4 h5 h6 h7 : Int)
  (t1 t2 t3 t4 t5 t6 t7 tk tn : Tok)
  n : Nat
noncomputable abbrev envD (D : ED) (num : Int) (par : Value) (fr : Addr) (lk : Bool) (ls : Addr) : Obj :=
  dictOf [⟨D.h1, .str "kind" D.t1, .str "environment" D.tk⟩, ⟨D.h2, .str "number" D.t2, .int num D.tn⟩, ⟨D.h3, .str "parent" D.t3, par⟩, ⟨D.h4, .str "attrs" D.t4, .none⟩,
    ⟨D.h5, .str "frame" D.t5, .ref fr⟩, ⟨D.h6, .str "locked" D.t6, .bool lk⟩, ⟨D.h7, .str "locks" D.t7, .ref ls⟩] D.n
end
section
open PySem PySem.W PyProof.Rows PyProof.V PySem.Spec PySem.W.X
theorem fill0 : PySem.Challenge.rw_nz0462_01 = PySem.Challenge.rw_nz0462_01 ∧ hd.heap_39 = hd.heap_39 := by
  w_top off
  k_fill
  exact ⟨rfl, rfl⟩
noncomputable abbrev excO (dx t : Addr) : Obj := { cls := .ref 44, dict := some dx, data := .fields #[.ref t, .none, .none, .none, .bool false, .none] }
noncomputable abbrev msgO (hh : Int) (tm tx : Tok) (msg : Str) (n : Nat) : Obj := dictOf [⟨hh, .str (Str.ofString "message") tm, .str msg tx⟩] n
theorem wpAny_room {α : Type} {M : Model} {hd' : Option Value} {d d' u u' : Nat} {fr : Option (List Env)} {gd : Option (List Code)} {t : Sem α} {Q : α → Shared → Prop} {E : Value → Shared → Prop} {s : Shared}
    (hd : d ≤ d') (hu : u ≤ u') (h : wpAny M { handled := hd', depth := d', frames := fr, guards := gd, units := u' } t Q E s) : wpAny M { handled := hd', depth := d, frames := fr, guards := gd, units := u } t Q E s :=
  fun Γ p hΓ => h Γ p ⟨hΓ.1, Nat.le_trans hΓ.2.1 hd, hΓ.2.2.1, hΓ.2.2.2.1, Nat.le_trans hΓ.2.2.2.2 hu⟩
end
section
open PySem PySem.W PySem.Calls PyProof.Rows PyProof.V PySem.Spec PySem.W.X
set_option linter.unusedVariables false
noncomputable abbrev excN (t : Addr) : Obj := { cls := .ref 44, data := .fields #[.ref t, .none, .none, .none, .bool false, .none] }
section
variable {prog : Program} {w : World} {A : Around} {R : Result → Shared → Prop} {h : Heap} {g : Array GenState} {d : Drawn} {t : Nat} {os : OsState}
variable {nm q : Str} {C N f : Addr} {bs bm bmB : List Value} {hdct : Bool} {sn : List Str} {sub : List Value} {ab : Bool} {col : Option Bool} {dd : Option Addr} {k0 k1 k2 k3 k5 : Option Value} {B newId initId : String}
theorem exc_make (F : ExcBaseFacts B newId initId bmB) (T : OwnTail h bmB bm) {rest : List Value} (hC : h.get? C = some (excClassObj nm q C N bs bm hdct sn sub ab col dd k0 k1 k2 k3 k5 newId))
    (hi : Looks (model prog w) h (typeLookup (.ref C) "__init__") (some (.ref f))) (hb : ∀ self, Looks (model prog w) h (bindSpecial (.ref f) self) (.ref f, [self])) (hrest : rest.length ≤ sizeLine)
    (hq : codeAny (model prog w) (A.under (.builtin "type.__call__" ⟨.ref C :: rest, []⟩)) (.call (.ref f) ⟨.ref (h.objs.size + 1) :: rest, []⟩) (InitBack (h.objs.size + 1) R)
      ⟨(h.push { cls := .type "tuple", data := .seq rest.toArray }).push { cls := .ref C, data := .fields #[.ref h.objs.size, .none, .none, .none, .bool false, .none] }, g, d, t, os⟩) :
    codeAny (model prog w) A (.call (.ref C) ⟨rest, []⟩) R ⟨h, g, d, t, os⟩ := by
  have f1 := tc_lookup
  have f2 := tc_bind (.ref C)
  have hT : (⟨h, g, d, t, os⟩ : Shared).TypeIs (.ref C) "type" := ⟨_, hC, rfl⟩
  refine codeAny_of_tree ?_
  show wpAny _ _ (callAny (.ref C) _) _ _ _
  repeat (any_goals (first | assumption | with_reducible refine wpAny_loadPart_at hC ?_ | wp_step))
  refine ⟨rfl, ?_⟩
  refine codeAny_call_builtin_at (Code.quiet_builtin _ (by decide +kernel)) entry_typeCall (wpAny_check_type_call_sub hC ?_)
  unfold Builtin.«type.__call__»
  repeat (first | with_reducible refine wpAny_loadPart_at hC ?_ | with_reducible refine wpAny_madeBy_exc hC ?_ | wp_step)
  refine codeAny_call_builtin_code (Code.quiet_builtin _ F.quiet) (wpAny_check_new_subT F T hC ?_)
  refine codeAny_exc_new_subT F T hC ?_ hrest
  show wpAny _ _ _ _ _ _
  have hC₁ := Heap.get?_push_of_some { cls := .ref C, data := .fields #[.ref h.objs.size, .none, .none, .none, .bool false, .none] }
    (Heap.get?_push_of_some { cls := .type "tuple", data := .seq rest.toArray } hC)
  have hget : ((h.push { cls := .type "tuple", data := .seq rest.toArray }).push
      { cls := .ref C, data := .fields #[.ref h.objs.size, .none, .none, .none, .bool false, .none] }).get? (h.objs.size + 1) = some
      { cls := .ref C, data := .fields #[.ref h.objs.size, .none, .none, .none, .bool false, .none] } := by heap_get
  have hcC : (Value.ref C :: bm).contains (.ref C) = true := by simp
  have kk : ∀ b o, h.get? b = some o → ((h.push { cls := .type "tuple", data := .seq rest.toArray }).push { cls := .ref C, data := .fields #[.ref h.objs.size, .none, .none, .none, .bool false, .none] }).get? b = some o :=
    fun b o e => Heap.get?_push_of_some _ (Heap.get?_push_of_some _ e)
  unfold isInstance
  repeat (first | with_reducible refine wpAny_loadPart_at hget ?_ | (with_reducible refine wpAny_isSubtype_exc hC₁ ?_; rw [hcC]) | wp_step)
  show wpAny _ _ (isSubtype (.ref C) (.ref C)) _ _ _
  refine wpAny_isSubtype_exc hC₁ ?_
  rw [hcC]
  repeat wp_step
  show wpAny _ _ (typeLookup (.ref C) _) _ _ _
  refine (hi.keeps kk).here ?_
  dsimp only
  refine wpAny_holding (wpAny_bind (((hb _).keeps kk).here ?_))
  dsimp only
  refine wpAny_bind (wpAny_call ?_)
  refine codeAny_mono hq fun r s' z => ?_
  rcases r with e | (v | _ | _ | _) <;> first | exact z | exact z.elim | skip
  obtain ⟨rfl, z⟩ := z
  exact wpAny_pure (wpAny_pure z)
end
section
variable {prog : Program} {w : World} {A : Around} {E : Value → Shared → Prop} {K : Frag} {h : Heap} {g : Array GenState} {d : Drawn} {tk : Nat} {os : OsState}
variable {nm q : Str} {N e t : Addr} {bs bm : List Value} {sn : List Str} {sub : List Value} {ab : Bool} {col : Option Bool} {dd : Option Addr} {k0 k1 k2 k3 k5 : Option Value} {newId : String} {msg : Str} {tx : Tok}
theorem refuse_exc (self : Value) (c : Addr) : refuseLoop self "__setattr__" (.ref c :: [.type "Exception", .type "BaseException", .type "object"]) = pure () := by
  rw [refuseLoop_ref]; exact PySem.F.store_Exception.passes self
theorem store_exc {Q : Unit → Shared → Prop} {c : Addr} (X : K.In h) (hC : h.get? 44 = some (excClassObj nm q 44 N bs (.ref c :: [.type "Exception", .type "BaseException", .type "object"]) true sn sub ab col dd k0 k1 k2 k3 k5 newId))
    (hx : h.get? e = some (excN t)) (hsa : findIn K (.ref 44) "__setattr__" = some (some (.builtin "object.__setattr__"))) (hna : findIn K (.ref 44) (Str.ofString "message") = some none)
    (hq : ∀ h' tk' hh tm n, (∀ b o, b ≠ e → h.get? b = some o → h'.get? b = some o) → h'.get? e = some (excO h.objs.size t) → h'.get? h.objs.size = some (msgO hh tm tx msg n) → Q () ⟨h', g, d, tk', os⟩) :
    wpAny (model prog w) A (setAttr (.ref e) (Str.ofString "message") (.str msg tx)) Q E ⟨h, g, d, tk, os⟩ := by
  have I : InstAt h e (excN t) 44 none := ⟨hx, rfl, rfl, trivial⟩
  refine set_plain (s := ⟨h, g, d, tk, os⟩) X I hsa ?_
  have SF := PySem.F.store_object
  have hm : Looks (model prog w) h (mroOf (.ref 44)) (.ref 44 :: .ref c :: [.type "Exception", .type "BaseException", .type "object"]) := ((Looks.ld (part := none) hC).andThen .now).andThen .now
  have sub : Looks (model prog w) h (isInstance (.ref e) (.type "object")) true := I.type.andThen (fun A' Q' E' s' k q' => by
    unfold isSubtype
    exact wpAny_bind (hm A' _ E' s' k (wpAny_pure q')))
  refine codeAny_call_builtin SF.slot.plain SF.entry (@check_slot (model prog w) _ _ _ "object.__setattr__" "object" "__setattr__" (.ref e) [.str _ _, .str msg tx] [] _ SF.kind SF.split sub (SF.args (.ref e) _ _) ?_)
  rw [osa_eq, PySem.refuse_eq]
  refine wpAny_bind (wpAny_bind (I.type.here (wpAny_bind (hm.here ?_))))
  rw [refuseLoop_ref, refuse_exc]
  refine wpAny_pure (wpAny_bind (I.type.here (wpAny_bind ((looks_findIn X hna).here (wpAny_bind (m := Builtin.ObjectAttr.storeTaker? none) (wpAny_pure (a := none) ?_))))))
  dsimp only
  unfold Builtin.ObjectAttr.storeInOwnDict
  refine wpAny_bind (m := ownStreamTells _ _) (wpAny_pure (a := ()) ?_)
  dsimp only
  rw [if_neg (by decide)]
  refine wpAny_bind ?_
  show wpAny _ _ (instanceDict e true) _ _ _
  have hcd : Looks (model prog w) h (classData 44) _ := (Looks.ld (part := none) hC).andThen .now
  unfold instanceDict
  refine wpAny_bind (wpAny_loadPart hx (wpAny_bind (hcd.here ?_)))
  simp only [Bool.not_true, Bool.false_eq_true, if_false, Bool.false_or]
  have hxs : e ≠ h.objs.size := Nat.ne_of_lt (Heap.lt_size hx)
  have hx₁ : (h.push emptyDict).get? e = some (excN t) := Heap.get?_push_of_some _ hx
  refine wpAny_bind (wpAny_alloc' ?_)
  refine wpAny_bind (wpAny_update' hx₁ ?_)
  refine wpAny_pure ?_
  obtain ⟨h2, eh2⟩ : ∃ h2, h2 = (h.push emptyDict).update e fun o => { cls := o.cls, dict := some h.objs.size, data := o.data, slots := o.slots } := ⟨_, rfl⟩
  have hgd : h2.get? h.objs.size = some emptyDict := by rw [eh2]; exact (Heap.get?_update_ne _ _ _ _ hxs.symm).trans (Heap.get?_push_at rfl rfl)
  have hge : h2.get? e = some (excO h.objs.size t) := by rw [eh2]; exact Heap.get?_update_self _ hx₁ rfl
  have hgk : ∀ b o, b ≠ e → h.get? b = some o → h2.get? b = some o := fun b o ne hb => by rw [eh2]; exact (Heap.get?_update_ne _ _ _ _ ne).trans (Heap.get?_push_of_some _ hb)
  show wpAny _ _ (Builtin.ObjectAttr.storeInDict h.objs.size (.str (Str.ofString "message") tk) (Str.ofString "message") (.str msg tx)) _ _ _
  unfold Builtin.ObjectAttr.storeInDict Builtin.ObjectAttr.newKeyGuard
  refine wpAny_bind (wpAny_pure (wpAny_bind ?_))
  unfold nsSet
  refine wpAny_bind (wpAny_bind (wpAny_askSetting (wpAny_pure (wpAny_bind (wpAny_mkText (wpAny_bind (wpAny_loadPart (eh2 ▸ hgd) ?_)))))))
  dsimp only
  rw [aRefKeyMayBeTheName_at, if_neg (by simp)]
  have hgd2 : ∀ hh tm, (h2.update h.objs.size (Obj.putName (Str.ofString "message") hh (.str (Str.ofString "message") tm) (.str msg tx))).get? h.objs.size = some (msgO hh tm tx msg 1) :=
    fun hh tm => Heap.get?_update_self _ hgd rfl
  refine wpAny_updatePart (eh2 ▸ hgd) ?_
  rw [← eh2]
  refine wpAny_bind (wpAny_lookBehind (o := msgO _ _ tx msg 1) (hgd2 _ _) (pastItsLine_dict (by show (1 : Nat) ≤ _; decide)) ?_)
  refine wpAny_pure (hq _ _ _ _ _ (fun b o ne hb => ?_) ?_ (hgd2 _ _))
  · exact (Heap.get?_update_ne _ _ _ _ (Nat.ne_of_lt (Heap.lt_size hb))).trans (hgk b o ne hb)
  · exact (Heap.get?_update_ne _ _ _ _ hxs).trans hge
end
theorem ini_44 {w : World} : findIn (hd.heap_39 w.params) (.ref 44) "__init__" = some (some (.ref 41)) := by k_is
theorem sa_44 {w : World} : findIn (hd.heap_39 w.params) (.ref 44) "__setattr__" = some (some (.builtin "object.__setattr__")) := by k_is
theorem na_44 {w : World} : findIn (hd.heap_39 w.params) (.ref 44) (Str.ofString "message") = some none := by k_is
theorem tl_44 {w : World} : tailIn (hd.heap_39 w.params) [.type "Exception", .type "BaseException", .type "object"] [.ref 24, .type "Exception", .type "BaseException", .type "object"] = true := by kernel_rfl
theorem fty_41 {w : World} : typeIn (hd.heap_39 w.params) (.ref 41) = some (.type "function") := by k_is
theorem cls_44 {w : World} : ∃ nm q N bs sn sub ab col dd k0 k1 k2 k3 k5, (hd.heap_39 w.params).lookup 44 = some (excClassObj nm q 44 N bs [.ref 24, .type "Exception", .type "BaseException", .type "object"] true sn sub ab col dd k0 k1 k2 k3 k5 "Exception.__new__") :=
  ⟨_, _, _, _, _, _, _, _, _, _, _, _, _, _, rfl⟩
section
variable {prog : Program} {w : World} {A : Around} {E : Value → Shared → Prop} {s : Shared} {h₀ : Heap} {L : Addr} {m mg mb : Str → Option Value} {news : List (Addr × Obj)} {p : Program} {loose : List Str} {mean : ExcName → Option Value}
theorem mk_body {env : Env} {p1 p2 p3 p4 : Pos} {Q : Flow → Shared → Prop} {e : Addr} {msg : Str} {tx : Tok}
    (hm : wpAny (model prog w) A (eval (.Name (Str.ofString "message") p3) env) (fun v s₁ => v = .str msg tx ∧ s₁ = s) E s)
    (hs : wpAny (model prog w) A (eval (.Name (Str.ofString "self") p1) env) (fun v s₁ => v = .ref e ∧ s₁ = s) E s)
    (k : wpAny (model prog w) A (setAttr (.ref e) (Str.ofString "message") (.str msg tx)) (fun _ => Q .next) E s) :
    wpAny (model prog w) A (execs [.Assign [.Attribute (.Name (Str.ofString "self") p1) (Str.ofString "message") p2] (.Name (Str.ofString "message") p3) p4] env) Q E s := by
  refine wpAny_execs_cons (plainObj_wpAny_Assign_Attribute (wpAny_mono hm (fun v s₁ z => ?_) fun _ _ z => z))
  obtain ⟨rfl, rfl⟩ := z
  refine wpAny_mono hs (fun v s₁ z => ?_) fun _ _ z => z
  obtain ⟨rfl, rfl⟩ := z
  exact wpAny_mono k (fun _ _ z => wpAny_execs_nil z) fun _ _ z => z
theorem mk_K {d u : Nat} {gd : Option (List Code)} {fr : Option (List Env)} {msg : Str} {tx : Tok} {Q : Value → Shared → Prop} (T : Top p loose mean mg mb h₀) (F : Fr h₀ L s.heap m) (N : News h₀ L s.heap news) (X : (hd.heap_39 w.params).In h₀)
    (hr : d ≤ 400)
    (k : ∀ e dx t h' tk hh tm n, Fr h₀ L h' m → News h₀ L h' ((e, excO dx t) :: (dx, msgO hh tm tx msg n) :: news) → s.heap.StaysIn h' → s.heap.get? e = none → s.heap.get? dx = none → e ≠ dx →
      (hd.heap_39 w.params).In h' → Q (.ref e) { s with heap := h', toks := tk }) :
    wpAny (model prog w) { handled := none, depth := d, frames := fr, guards := gd, units := u } (call (.ref 44) [.str msg tx]) Q E s := by
  have X1 := X.keeps F.keep
  obtain ⟨nm, q, N4, bs, sn, sub, ab, col, dd, k0, k1, k2, k3, k5, e44⟩ := cls_44 (w := w)
  have XC := X1 44 _ e44
  refine wpAny_call (exc_make (h := s.heap) (g := s.gens) (d := s.drawn) (t := s.toks) (os := s.os) PySem.F.excBase_Exception (tail_of_in X1 tl_44) XC (looks_findIn X1 ini_44) (fun self => bind_fn X1 self fty_41) (by show (1 : Nat) ≤ _; decide) ?_)
  obtain ⟨h1, eh1⟩ : ∃ h1, h1 = (s.heap.push { cls := .type "tuple", data := .seq [Value.str msg tx].toArray }).push (excN s.heap.objs.size) := ⟨_, rfl⟩
  have e1 : h1.objs.size = s.heap.objs.size + 2 := by rw [eh1]; simp [Heap.push]
  have ge : h1.get? (s.heap.objs.size + 1) = some (excN s.heap.objs.size) := by rw [eh1]; heap_get
  have st1 : s.heap.StaysIn h1 := fun b o q => by rw [eh1]; exact Heap.get?_push_of_some _ (Heap.get?_push_of_some _ q)
  have X2 := X1.keeps st1
  show codeAny _ _ _ _ ⟨(s.heap.push { cls := .type "tuple", data := .seq [Value.str msg tx].toArray }).push (excN s.heap.objs.size), _, _, _, _⟩
  rw [← eh1]
  refine codeAny_call_def (s := ⟨h1, s.gens, s.drawn, s.toks, s.os⟩) (binds := [(Str.ofString "self", .ref (s.heap.objs.size + 1)), (Str.ofString "message", .str msg tx)]) ?hroom (X2 41 _ rfl) rfl (T.nolimit.keeps (fun b o q => st1 _ _ (F.keep b o q))) (codeRec_of X2 ?hcd) rfl (BindsTo.of_eq rfl) ?hcell ?hloc (fun h₁ hns hk₁ => ?_) rfl rfl rfl
  case hroom => first | (show d + 0 < 1000; omega) | (show d + 1 < 1000; omega)
  case hcd => k_is
  case hcell => decide
  case hloc => exact locs rfl
  have F1 : Fr h1 h1.objs.size h₁ _ := ⟨hns, hk₁, Nat.le_refl _⟩
  have ge₁ := hk₁ _ _ ge
  refine mk_body (e := s.heap.objs.size + 1) (msg := msg) (tx := tx) (ld F1 rfl ⟨rfl, rfl⟩) (ld F1 rfl ⟨rfl, rfl⟩) ?_
  refine store_exc (X2.keeps hk₁) (hk₁ _ _ (st1 _ _ XC)) ge₁ sa_44 na_44 fun h' tk' hh tm n kp q1 q2 => ⟨rfl, ?_⟩
  have lt₁ := Heap.lt_size ge₁
  have st : s.heap.StaysIn h' := fun b o q => kp b o (Nat.ne_of_lt (Nat.lt_succ_of_lt (Heap.lt_size q))) (hk₁ _ _ (st1 _ _ q))
  have no : ∀ b, s.heap.objs.size ≤ b → s.heap.get? b = none := fun b hb => by
    cases q : s.heap.get? b with
    | none => rfl
    | some o => exact absurd (Heap.lt_size q) (Nat.not_lt.mpr hb)
  have nL : ∀ b, s.heap.get? b = none → b ≠ L := fun b hb q => by
    obtain ⟨oL, _, _, hL, _⟩ := F.ns
    rw [q, hL] at hb; cases hb
  have n0 : ∀ b, s.heap.get? b = none → h₀.get? b = none := fun b hb => by
    cases q : h₀.get? b with
    | none => rfl
    | some o => rw [F.keep b o q] at hb; cases hb
  have z1 := no _ (Nat.le_succ s.heap.objs.size)
  have z2 := no h₁.objs.size (Nat.le_trans (Nat.le_succ _) (Nat.le_of_lt lt₁))
  refine k _ _ s.heap.objs.size h' tk' hh tm n ⟨F.ns.keeps st, fun b o q => st b o (F.keep b o q), F.above⟩ ?_ st z1 z2 (Nat.ne_of_lt lt₁) (X1.keeps st)
  intro p hp
  rcases List.mem_cons.mp hp with rfl | hp
  · exact ⟨q1, nL _ z1, n0 _ z1⟩
  rcases List.mem_cons.mp hp with rfl | hp
  · exact ⟨q2, nL _ z2, n0 _ z2⟩
  · exact ⟨st _ _ (N p hp).1, (N p hp).2⟩
end
end
section
open PySem PySem.W PyProof.Rows PyProof.V PySem.Spec PySem.W.X
noncomputable def Held (B : Heap) (l : List Env) (e dx : Addr) (fl : Value) (h : Heap) : Prop :=
  B.StaysIn h ∧ B.get? e = none ∧ h.FunFrames B l ∧
    ∃ (vs : Array Value) (T : Addr) (oT : Obj) (ts : Array Value) (sl : Array (Option Value)), h.get? e = some ⟨.ref 44, some dx, .fields vs, sl⟩ ∧ vs[1]? = some (.ref T) ∧
      B.get? T = none ∧ T ≠ e ∧ h.get? T = some oT ∧ oT.data = .fields ts ∧ ts[3]? = some fl
section
variable {M : Model} {A : Around} {E : Value → Shared → Prop} {s : Shared} {B : Heap} {env : Env} {outer : List Env} {L e dx : Addr}
theorem held_entry {vs : Array Value} {sl : Array (Option Value)} {head : Value} {hadNext : Bool} {Q : Unit → Shared → Prop}
    (hfr : A.frames = some (env :: outer)) (hl : s.heap.FunFrames B (env :: outer)) (hf : env.frame = some L)
    (he : s.heap.get? e = some ⟨.ref 44, some dx, .fields vs, sl⟩) (hkb : B.StaysIn s.heap) (hen : B.get? e = none) (hsz : 1 < vs.size)
    (k : ∀ h', Held B (env :: outer) e dx (rawInt L) h' → s.heap.UpToSlots h' → Q () { s with heap := h' }) :
    wpAny M A (do let a ← frameOf env; let pl ← entryPlaceOf L hadNext; let b ← EntryCells.newEntry head a .none (rawInt L) .none pl; setField (.ref e) 1 b) Q E s := by
  have off : e ∉ (env :: outer).filterMap (·.frame) := fun hm => by
    obtain ⟨_, o, ho, hnf⟩ := hl.mem hm
    rw [he] at ho; cases ho; exact hnf vs rfl
  refine wpAny_bind (wpAny_frameOf_fun hfr hl hf fun h₁ hs₁ => ?_)
  refine wpAny_bind (wpAny_entryPlaceOf fun pl hpl => ?_)
  unfold EntryCells.newEntry newFields
  refine wpAny_bind (wpAny_newObj_type ?_ (hpl.sizeOk5 _ _ _ _ _))
  have he₁ := (hs₁.2.1 e off).trans he
  have kb₁ : B.StaysIn h₁ := fun b o hbo => (hs₁.2.1 b fun hm => by rw [(hl.mem hm).1] at hbo; cases hbo).trans (hkb b o hbo)
  generalize hnt : ([head, Value.ref L, Value.none, rawInt L, Value.none] ++ (if pl.isEmpty then List.replicate 6 Value.none else pl)).toArray = nt
  have h3 : nt[3]? = some (rawInt L) := by
    subst hnt
    first | (simp; done) | (rcases hpl with rfl | ⟨_, _, _, _, _, _, _, rfl⟩ <;> simp)
  have he₂ := Heap.get?_push_of_some (h := h₁) { cls := .type "traceback", dict := none, data := .fields nt } he₁
  refine wpAny_setField he₂ rfl hsz (k _ ?_ ?_)
  · have hTe : h₁.objs.size ≠ e := Nat.ne_of_gt (Heap.lt_size he₁)
    refine ⟨fun b o hbo => ?_, hen, hl.of_keeps fun b o hb hnf => ?_, ?_⟩
    · rw [Heap.get?_update_other _ _ (fun q => by rw [← q, hen] at hbo; cases hbo)]
      exact Heap.get?_push_of_some _ (kb₁ b o hbo)
    · obtain ⟨sl', hs'⟩ := hs₁.2.2 b o hb
      refine ⟨{ o with slots := sl' }, ?_, rfl⟩
      rw [Heap.get?_update_other _ _ (fun q => by rw [← q, he] at hb; cases hb; exact hnf vs rfl)]
      exact Heap.get?_push_of_some _ hs'
    · refine ⟨vs.setIfInBounds 1 (.ref h₁.objs.size), h₁.objs.size, { cls := .type "traceback", dict := none, data := .fields nt }, nt, sl, ?_, by simp [hsz], kb₁.fresh, hTe, ?_, rfl, h3⟩
      · exact Heap.get?_update_self (Obj.mapFields (·.setIfInBounds 1 (Value.ref h₁.objs.size))) he₂ rfl
      · exact (Heap.get?_update_other _ _ (Ne.symm hTe)).trans (Heap.get?_push_size h₁ rfl)
  · intro b o hb hnf
    obtain ⟨sl', hs'⟩ := hs₁.2.2 b o hb
    refine ⟨sl', ?_⟩
    rw [Heap.get?_update_other _ _ (fun q => by rw [← q, he] at hb; cases hb; exact hnf vs rfl)]
    exact Heap.get?_push_of_some _ hs'
theorem held_first {vs : Array Value} {sl : Array (Option Value)} {Q : Unit → Shared → Prop}
    (hfr : A.frames = some (env :: outer)) (hl : s.heap.FunFrames B (env :: outer)) (hf : env.frame = some L)
    (he : s.heap.get? e = some ⟨.ref 44, some dx, .fields vs, sl⟩) (hkb : B.StaysIn s.heap) (hen : B.get? e = none) (h1 : vs[1]? = some .none)
    (k : ∀ h', Held B (env :: outer) e dx (rawInt L) h' → s.heap.UpToSlots h' → Q () { s with heap := h' }) : wpAny M A (noteFrame (.ref e) env) Q E s := by
  unfold noteFrame
  simp only [hf]
  refine wpAny_bind (wpAny_field he rfl h1 ?_)
  rw [if_neg (by decide)]
  exact held_entry hfr hl hf he hkb hen (Array.getElem?_eq_some_iff.mp h1).1 k
theorem held_next {Q : Unit → Shared → Prop} (hfr : A.frames = some (env :: outer)) (hf : env.frame = some L) (H : Held B (env :: outer) e dx .none s.heap)
    (k : ∀ h', Held B (env :: outer) e dx (rawInt L) h' → s.heap.UpToSlots h' → Q () { s with heap := h' }) : wpAny M A (noteFrame (.ref e) env) Q E s := by
  obtain ⟨hkb, hen, hl, vs, T, oT, ts, sl, he, h1, hnT, hTe, hT, hdT, h3⟩ := H
  unfold noteFrame
  simp only [hf]
  refine wpAny_bind (wpAny_field he rfl h1 ?_)
  rw [if_pos (show (Value.ref T != Value.none) = true from by simp)]
  refine wpAny_bind (wpAny_field hT hdT h3 ?_)
  rw [if_neg (show ¬ ((Value.none == rawInt L) = true) from by simp [rawInt])]
  refine wpAny_bind (wpAny_setField hT hdT (Array.getElem?_eq_some_iff.mp h3).1 ?_)
  have other : ∀ b, b ≠ T → (s.heap.update T (Obj.mapFields (·.setIfInBounds 3 Value.none))).get? b = s.heap.get? b := fun b hb => Heap.get?_update_other _ _ (Ne.symm hb)
  have away : ∀ b o, s.heap.get? b = some o → (∀ vs, o.data ≠ .fields vs) → b ≠ T := fun b o hb hnf q => by
    rw [q, hT] at hb; cases hb; exact hnf ts hdT
  refine held_entry (vs := vs) (sl := sl) hfr (hl.of_keeps fun b o hb hnf => ⟨o, (other b (away b o hb hnf)).trans hb, rfl⟩) hf ((other e (Ne.symm hTe)).trans he)
    (fun b o hbo => (other b fun q => by rw [q, hnT] at hbo; cases hbo).trans (hkb b o hbo)) hen (Array.getElem?_eq_some_iff.mp h1).1
    fun h' x y => k h' x fun b o hb hnf => y b o ((other b (away b o hb hnf)).trans hb) hnf
theorem held_land {fl : Value} {Q : Unit → Shared → Prop} (H : Held B outer e dx fl s.heap)
    (k : ∀ h', Held B outer e dx .none h' → s.heap.UpToSlots h' → Q () { s with heap := h' }) : wpAny M A (setFlight (.ref e) none) Q E s := by
  obtain ⟨hkb, hen, hl, vs, T, oT, ts, sl, he, h1, hnT, hTe, hT, hdT, h3⟩ := H
  have hz : 3 < ts.size := (Array.getElem?_eq_some_iff.mp h3).1
  have other : ∀ b, b ≠ T → (s.heap.update T (Obj.mapFields (·.setIfInBounds 3 ((none : Option Addr).elim Value.none fun f => rawInt f)))).get? b = s.heap.get? b :=
    fun b hb => Heap.get?_update_other _ _ (Ne.symm hb)
  have away : ∀ b o, s.heap.get? b = some o → (∀ vs, o.data ≠ .fields vs) → b ≠ T := fun b o hb hnf q => by
    rw [q, hT] at hb; cases hb; exact hnf ts hdT
  unfold setFlight
  refine wpAny_bind (wpAny_field he rfl h1 ?_)
  rw [if_pos (show (Value.ref T != Value.none) = true from by simp)]
  refine wpAny_setField hT hdT hz (k _ ⟨fun b o hbo => (other b fun q => by rw [q, hnT] at hbo; cases hbo).trans (hkb b o hbo), hen,
    hl.of_keeps fun b o hb hnf => ⟨o, (other b (away b o hb hnf)).trans hb, rfl⟩, ?_⟩ fun b o hb hnf => ⟨o.slots, (other b (away b o hb hnf)).trans hb⟩)
  exact ⟨vs, T, _, _, sl, (other e (Ne.symm hTe)).trans he, h1, hnT, hTe, Heap.get?_update_self _ hT (Obj.isFreed_of_fields (Obj.data_mapFields hdT _)), Obj.data_mapFields hdT _, by simp [hz]⟩
theorem Held.pop {fl : Value} {h : Heap} (H : Held B (env :: outer) e dx fl h) : Held B outer e dx fl h := ⟨H.1, H.2.1, H.2.2.1.2.2, H.2.2.2⟩
theorem leave_first {vs : Array Value} {sl : Array (Option Value)} {Q : Unit → Shared → Prop}
    (hfr : A.frames = some (env :: outer)) (hl : s.heap.FunFrames B (env :: outer)) (hf : env.frame = some L)
    (he : s.heap.get? e = some ⟨.ref 44, some dx, .fields vs, sl⟩) (hkb : B.StaysIn s.heap) (hen : B.get? e = none) (h1 : vs[1]? = some .none)
    (k : ∀ h', Held B outer e dx .none h' → s.heap.UpToSlots h' → Q () { s with heap := h' }) : wpAny M A (leaving env (.ref e)) Q E s := by
  unfold leaving
  refine wpAny_bind (held_first hfr hl hf he hkb hen h1 fun h₁ H₁ u₁ => ?_)
  exact held_land (s := { s with heap := h₁ }) H₁ fun h₂ H₂ u₂ => k h₂ H₂.pop (u₁.trans u₂)
theorem leave_next {Q : Unit → Shared → Prop} (hfr : A.frames = some (env :: outer)) (hf : env.frame = some L) (H : Held B (env :: outer) e dx .none s.heap)
    (k : ∀ h', Held B outer e dx .none h' → s.heap.UpToSlots h' → Q () { s with heap := h' }) : wpAny M A (leaving env (.ref e)) Q E s := by
  unfold leaving
  refine wpAny_bind (held_next hfr hf H fun h₁ H₁ u₁ => ?_)
  exact held_land (s := { s with heap := h₁ }) H₁ fun h₂ H₂ u₂ => k h₂ H₂.pop (u₁.trans u₂)
end
end
section
open PySem PySem.W PyProof.Rows PyProof.V PySem.Spec PySem.W.X
noncomputable def RaisableR (w : World) (E : Value → Shared → Prop) (v : Value) (s₁ : Shared) : Prop :=
  ∃ a dx t, v = .ref a ∧ s₁.heap.get? a = some (excO dx t) ∧ (hd.heap_39 w.params).In s₁.heap ∧ E (.ref a) s₁
theorem sub_base {w : World} : subIn (hd.heap_39 w.params) (.ref 44) (.type "BaseException") = some true := by k_is
theorem typ_44 {w : World} : typeIn (hd.heap_39 w.params) (.ref 44) = some (.type "type") := by k_is
theorem raise_own {prog : Program} {w : World} {A : Around} {E : Value → Shared → Prop} {s : Shared} {env : Env} {e : PySem.Expr} {pos : Pos} {Q : Flow → Shared → Prop} (hh : A.handled = none)
    (h : wpAny (model prog w) A (eval e env) (RaisableR w E) E s) : wpAny (model prog w) A (exec (.Raise (some e) none pos) env) Q E s := by
  show wpAny _ A (do standAt pos; raiseStmt env (some (do let v ← eval e env; standAt pos; pure v)) none) Q E s
  refine wpAny_bind (wpAny_standAt ?_)
  unfold raiseStmt
  dsimp only
  refine wpAny_bind (wpAny_bind (wpAny_mono h (fun v s₁ h₁ => wpAny_bind (wpAny_standAt (wpAny_pure ?_))) fun _ _ x => x))
  obtain ⟨a, dx, t, rfl, ha, X, hE⟩ := h₁
  have hnt : ∀ {Q' : Bool → Shared → Prop}, Q' false s₁ → wpAny (model prog w) A (isType (.ref a)) Q' E s₁ := by
    intro Q' hq
    simp only [isType, loadHead]
    exact wpAny_bind (wpAny_loadPart ha (wpAny_pure hq))
  have hty : ∀ {Q' : Value → Shared → Prop}, Q' (.ref 44) s₁ → wpAny (model prog w) A (typeOf (.ref a)) Q' E s₁ := by
    intro Q' hq
    unfold typeOf
    exact wpAny_bind (wpAny_loadPart ha (wpAny_pure hq))
  refine wpAny_bind (wpAny_pure ?_)
  dsimp only
  refine wpAny_bind (wpAny_holding ?_)
  unfold excFromValue isExcClass
  refine wpAny_bind (wpAny_bind (hnt ?_))
  simp only [Bool.false_eq_true, if_false]
  refine wpAny_pure ?_
  simp only [Bool.false_eq_true, if_false]
  unfold isInstance
  refine wpAny_bind (wpAny_bind (hty ((looks_subIn X sub_base).here ?_)))
  simp only [if_true]
  refine wpAny_pure ?_
  refine wpAny_bind (hnt ?_)
  simp only [Bool.false_eq_true, if_false]
  unfold raisedInstance
  refine wpAny_bind (wpAny_bind (hty (wpAny_bind ((looks_typeIn X typ_44).here ?_))))
  rw [if_pos (by decide)]
  refine wpAny_pure ?_
  unfold setFlight raiseNew
  refine wpAny_bind (wpAny_bind (wpAny_field (x := .none) ha rfl rfl ?_))
  rw [if_neg (by decide)]
  refine wpAny_pure (wpAny_bind (wpAny_handled ?_))
  rw [hh]
  first
    | exact wpAny_throw hE
    | exact wpAny_bind (wpAny_pure (wpAny_throw hE))
end
section
open PySem PySem.W PySem.Calls PyProof.Rows PyProof.V PySem.Spec PySem.W.X
structure Hides (h : Heap) (led : List (Addr × Obj)) (g : Heap) : Prop where
  get : ∀ b o, h.get? b = some o → (∀ p ∈ led, p.1 ≠ b) → g.get? b = some o
  of : ∀ b o, g.get? b = some o → h.get? b = some o
  size : g.objs.size = h.objs.size
  at_ : ∀ p ∈ led, h.get? p.1 = some p.2
section
variable {prog : Program} {w : World} {A₀ : Around} {s : Shared} {K : Frag} {L : Addr} {h₀ base : Heap} {m mg mb : Str → Option Value} {news : List (Addr × Obj)} {p : Program} {loose : List Str} {mean : ExcName → Option Value}
theorem enter {A : Around} {env : Env} {outer : List Env} {R : Result → Shared → Prop} {name qual : Str} {params : Arguments} {body : List Stmt} {scope : Scope} {dV kV doc pm cdv ct oc : Value} {an od : Option Addr} {osl : Array (Option Value)} {f : Addr} {args : Args} {binds : List (Str × Value)}
    (B : Below A₀ base outer h₀) (F : Fr h₀ L s.heap m) (X₀ : K.In h₀) (N : News h₀ L s.heap news) (T : Top p loose mean mg mb h₀) (hA : A.frames = some (env :: outer)) (hf : env.frame = some L) (hke : env.scope.kind = .function)
    (ho : K.lookup f = some ⟨oc, od, .func (fnOf name qual params body scope dV kV doc pm an cdv ct), osl⟩) (hcd : codeIn K cdv qual = true) (hroom : A.depth < recursionLimit)
    (hbind : BindsTo s (fnOf name qual params body scope dV kV doc pm an cdv ct) args binds) (hloc : ∀ y ∈ binds, scope.names.lookup y.1 = some .local)
    (h : ∀ g h₁, Fr h₀ L g m → Fr g s.heap.objs.size h₁ (fun y => binds.reverse.lookup y) → News g s.heap.objs.size h₁ news → Below A base (env :: outer) g → K.In g → Top p loose mean mg mb g → Hides s.heap news g →
      wpAny (model prog w) (A.deeper (envOf qual scope s.heap.objs.size f cdv)) (execs body (envOf qual scope s.heap.objs.size f cdv))
        (fun fl s' => LeaveK h₀ L m g R (match fl with | .ret v => v | _ => .none) s')
        (fun e s' => wpAny (model prog w) (A.deeper (envOf qual scope s.heap.objs.size f cdv)) (leaving (envOf qual scope s.heap.objs.size f cdv) e) (fun _ s'' => R (.error e) s'') (fun e' s'' => R (.error e') s'') s')
        { s with heap := h₁, toks := s.toks + binds.length })
    (hco : scope.isCoroutine = false) (hgen : scope.isGenerator = false) (hk : scope.kind = .function)
    (hcell : ∀ x ∈ scope.names, x.2 ≠ .cell) : codeAny (model prog w) A (.call (.ref f) args) R s := by
  obtain ⟨FG, BG, st, lv⟩ := groundX (R := R) B F N hA hf hke
  have X := X₀.keeps F.keep
  refine codeAny_call_def (fd := fnOf name qual params body scope dV kV doc pm an cdv ct) (body := body) (binds := binds) hroom (X _ _ ho) rfl (T.nolimit.keeps F.keep) (codeRec_of X hcd) rfl hbind hcell hloc (fun h₁ hns hk₁ => ?_) hco hgen hk
  have HD : Hides s.heap news (hideAll s.heap (news.map (·.1))) :=
    ⟨fun b o e n => hideAll_get _ e fun q => by obtain ⟨x, hx, rfl⟩ := List.mem_map.mp q; exact n x hx rfl, fun b o e => of_hideAll _ e, hideAll_size _ _, fun x hx => (N x hx).1⟩
  exact wpAny_mono (h _ h₁ FG ⟨hns, fun b o e => hk₁ b o (of_hideAll _ e), Nat.le_of_eq (hideAll_size _ _)⟩
    (fun x hx => ⟨hk₁ _ _ (N x hx).1, Nat.ne_of_lt (Heap.lt_size (N x hx).1), hideAll_none _ (List.mem_map_of_mem hx)⟩) BG (X₀.keeps st) (T.keeps st) HD) (fun fl s' hl => lv _ _ hl) fun _ _ y => y
end
noncomputable def Refused (h : Heap) (l : List Env) (e dx : Addr) (msg : Str) (h' : Heap) : Prop :=
  ∃ B hh tm tx n, (∀ b o, h.get? b = some o → b ∉ l.filterMap (·.frame) → B.get? b = some o) ∧ Held B l e dx .none h' ∧ B.get? dx = some (msgO hh tm tx msg n) ∧ h.UpToSlots h'
section
variable {M : Model} {A : Around} {E : Value → Shared → Prop} {s' : Shared} {base g h h₁ : Heap} {outer : List Env} {L a e dx t : Addr} {m m₁ : Str → Option Value} {name : Str} {scope : Scope} {cd : Value} {Q : Unit → Shared → Prop} {msg : Str}
theorem mem_frames {b : Addr} (hm : b ∈ (envOf name scope L a cd :: outer).filterMap (·.frame)) : b = L ∨ b ∈ outer.filterMap (·.frame) := by
  rw [List.filterMap_cons] at hm
  exact List.mem_cons.mp hm
theorem leave_refused {hh : Int} {tm tx : Tok} {n : Nat} (K : Below A base outer g) (F₁ : Fr g L h₁ m₁) (e1 : h₁.get? e = none) (e2 : h₁.get? dx = none)
    (F : Fr g L s'.heap m) (he : s'.heap.get? e = some (excO dx t)) (hd : s'.heap.get? dx = some (msgO hh tm tx msg n))
    (st₁ : h.StaysIn h₁) (st₂ : h₁.StaysIn s'.heap) (hL : h.get? L = none)
    (k : ∀ h', Refused h outer e dx msg h' → Q () { s' with heap := h' }) (hk : scope.kind = .function) :
    wpAny M (A.deeper (envOf name scope L a cd)) (leaving (envOf name scope L a cd) (.ref e)) Q E s' := by
  have st : ∀ b o, h.get? b = some o → s'.heap.get? b = some o := fun b o q => st₂ _ _ (st₁ _ _ q)
  have K' := K.push (name := name) (a := a) (cd := cd) F hk
  have there : ∀ b ∈ (envOf name scope L a cd :: outer).filterMap (·.frame), ∃ o, h₁.get? b = some o := fun b hb => by
    rcases mem_frames hb with rfl | hb
    · obtain ⟨o, _, _, ho, _⟩ := F₁.ns; exact ⟨o, ho⟩
    · obtain ⟨o, ho, _⟩ := (K.frames.mem hb).2; exact ⟨o, F₁.keep _ _ ho⟩
  have oe : e ∉ (envOf name scope L a cd :: outer).filterMap (·.frame) := fun hb => by obtain ⟨o, ho⟩ := there e hb; rw [e1] at ho; cases ho
  have od : dx ∉ (envOf name scope L a cd :: outer).filterMap (·.frame) := fun hb => by obtain ⟨o, ho⟩ := there dx hb; rw [e2] at ho; cases ho
  have hin : ∀ env ∈ (envOf name scope L a cd :: outer), ∀ b, env.frame = some b → b ∈ e :: (envOf name scope L a cd :: outer).filterMap (·.frame) := fun env he b hb => .tail _ (List.mem_filterMap.mpr ⟨env, he, hb⟩)
  refine leave_first (B := hideAll s'.heap (e :: (envOf name scope L a cd :: outer).filterMap (·.frame))) (L := L) K'.stack (funFrames_hide K'.frames hin) rfl he (fun b o q => of_hideAll _ q) (hideAll_none _ (.head _)) rfl fun h' H u => ?_
  refine k h' ⟨_, hh, tm, tx, n, fun b o q nb => ?_, H, ?_, (Heap.UpToSlots.of_keeps st).trans u⟩
  · refine hideAll_get _ (st b o q) fun hb => ?_
    rcases List.mem_cons.mp hb with rfl | hb
    · rw [st₁ _ _ q] at e1; cases e1
    · rcases mem_frames hb with rfl | hb
      · rw [hL] at q; cases q
      · exact nb hb
  · refine hideAll_get _ hd fun hb => ?_
    rcases List.mem_cons.mp hb with rfl | hb
    · rw [he] at hd; cases hd
    · exact od hb
theorem leave_onRefused {hc : Heap} (K : Below A base outer g) (R : Refused hc (envOf name scope L a cd :: outer) e dx msg s'.heap) (st : h.StaysIn hc) (hL : h.get? L = none)
    (k : ∀ h', Refused h outer e dx msg h' → Q () { s' with heap := h' }) :
    wpAny M (A.deeper (envOf name scope L a cd)) (leaving (envOf name scope L a cd) (.ref e)) Q E s' := by
  obtain ⟨B, hh, tm, tx, n, hB, H, hd, u⟩ := R
  refine leave_next (Around.frames_deeper K.stack) rfl H fun h' H' u' => k h' ⟨B, hh, tm, tx, n, fun b o q nb => hB b o (st _ _ q) fun hb => ?_, H', hd, (Heap.UpToSlots.of_keeps st).trans (u.trans u')⟩
  rcases mem_frames hb with rfl | hb
  · rw [hL] at q; cases q
  · exact nb hb
end
end
section
open PySem PySem.Calls PyProof.Rows PyProof.V PySem.Spec
abbrev Ent := Str × Int × Bool
noncomputable def look (x : Str) : List Ent → Option (Int × Bool)
  | [] => none
  | (y, v, b) :: r => if y = x then some (v, b) else look x r
noncomputable def putE (x : Str) (v : Int) : List Ent → List Ent
  | [] => [(x, v, false)]
  | (y, u, b) :: r => if y = x then (y, v, b) :: r else (y, u, b) :: putE x v r
noncomputable def delE (x : Str) (E : List Ent) : List Ent := E.filter fun p => !decide (p.1 = x)
noncomputable def lockE (x : Str) (b : Bool) (E : List Ent) : List Ent := E.map fun p => if p.1 = x then (p.1, p.2.1, b) else p
noncomputable def frmD (E : List Ent) : List (PyData × PyData) := E.map fun p => (.str p.1, .int p.2.1)
noncomputable def lockedMsg (x : Str) : Str := Str.ofString "cannot change value of locked binding for '" ++ x ++ Str.ofString "'"
noncomputable def addMsg : Str := Str.ofString "cannot add bindings to a locked environment"
noncomputable def delMsg : Str := Str.ofString "cannot remove bindings from a locked environment"
noncomputable def bindR (E : List Ent) (cl : Bool) (x : Str) (v : Int) : Option Str × List Ent :=
  match look x E with
  | some (_, true) => (some (lockedMsg x), E)
  | some (_, false) => (none, putE x v E)
  | none => if cl then (some addMsg, E) else (none, putE x v E)
noncomputable def takeR (E : List Ent) (cl : Bool) (x : Str) : Option (Option Str) × List Ent :=
  match look x E with
  | none => (none, E)
  | some _ => if cl then (some (some delMsg), E) else (some none, delE x E)
noncomputable def LockRel (E : List Ent) (D : List (PyData × PyData)) : Prop :=
  ∀ x, match look x E with
    | none => Spec.lookup (.str x) D = none
    | some (_, true) => Spec.lookup (.str x) D = some (.bool true)
    | some (_, false) => Spec.lookup (.str x) D = none ∨ Spec.lookup (.str x) D = some (.bool false)
theorem same_str_iff (a b : Str) : same (.str a) (.str b) = decide (a = b) := by
  rw [Bool.eq_iff_iff]; simp [same]
theorem frmD_lookup (x : Str) : ∀ E : List Ent, Spec.lookup (.str x) (frmD E) = (look x E).map fun p => .int p.1
  | [] => rfl
  | (y, v, b) :: r => by
    have ih := frmD_lookup x r
    unfold frmD at ih ⊢
    simp only [List.map_cons, lookup, look, same_str_iff]
    by_cases e : y = x
    · simp [e]
    · simp [e, ih]
theorem frmD_length (E : List Ent) : (frmD E).length = E.length := by unfold frmD; simp
theorem look_none_iff (x : Str) : ∀ E : List Ent, look x E = none ↔ ∀ p ∈ E, p.1 ≠ x
  | [] => by simp [look]
  | (y, v, b) :: r => by
    unfold look
    by_cases e : y = x
    · simp [e]
    · simp [e, look_none_iff x r]
theorem frmD_put (x : Str) (v : Int) : ∀ E : List Ent, (E.map (·.1)).Nodup → frmD (putE x v E) = putD (.str x) (.int v) (frmD E)
  | [], _ => rfl
  | (y, u, b) :: r, hn => by
    have hn' := List.nodup_cons.mp hn
    have ih := frmD_put x v r hn'.2
    unfold putE
    by_cases e : y = x
    · subst e
      have hr : ∀ p ∈ frmD r, same p.1 (.str y) = false := by
        intro p hp
        obtain ⟨q, hq, rfl⟩ := List.mem_map.mp hp
        rw [same_str_iff]
        exact decide_eq_false fun z => hn'.1 (List.mem_map.mpr ⟨q, hq, z⟩)
      have hm : (frmD r).map (fun p => if same p.1 (.str y) then (p.1, PyData.int v) else p) = frmD r := by
        conv => rhs; rw [← List.map_id (frmD r)]
        exact List.map_congr_left fun p hp => by rw [hr p hp]; rfl
      simp only [if_true]
      unfold putD
      show _ = if ((PyData.str y, PyData.int u) :: frmD r).any _ then ((PyData.str y, PyData.int u) :: frmD r).map _ else _
      simp only [List.any_cons, same_str_iff, decide_true, Bool.true_or, if_true, List.map_cons]
      rw [hm]; rfl
    · simp only [e, if_false]
      show (PyData.str y, PyData.int u) :: frmD (putE x v r) = putD (.str x) (.int v) ((PyData.str y, PyData.int u) :: frmD r)
      rw [ih]
      unfold putD
      simp only [List.any_cons, same_str_iff, e, decide_false, Bool.false_or, List.map_cons]
      split <;> simp
theorem frmD_del (x : Str) (E : List Ent) : frmD (delE x E) = delD (.str x) (frmD E) := by
  unfold frmD delE delD
  rw [List.filter_map]
  have e : (fun p : Ent => !decide (p.1 = x)) = ((fun p : PyData × PyData => !same p.1 (.str x)) ∘ fun p : Ent => (PyData.str p.1, PyData.int p.2.1)) := by
    funext p
    simp [same_str_iff]
  rw [e]
theorem putE_names (x : Str) (v : Int) : ∀ E : List Ent, (putE x v E).map (·.1) = if (look x E).isSome then E.map (·.1) else E.map (·.1) ++ [x]
  | [] => rfl
  | (y, u, b) :: r => by
    have ih := putE_names x v r
    unfold putE look
    by_cases e : y = x
    · simp [e]
    · simp only [e, if_false, List.map_cons, ih]
      split <;> simp
theorem putE_nodup {x : Str} {v : Int} {E : List Ent} (h : (E.map (·.1)).Nodup) : ((putE x v E).map (·.1)).Nodup := by
  rw [putE_names]
  split
  · exact h
  · rename_i n
    have n : look x E = none := by cases q : look x E with | none => rfl | some _ => rw [q] at n; exact absurd rfl n
    have := (look_none_iff x E).mp n
    rw [List.nodup_append]
    refine ⟨h, by simp, ?_⟩
    intro a ha b hb e
    obtain ⟨p, hp, rfl⟩ := List.mem_map.mp ha
    rw [List.mem_singleton.mp hb] at e
    exact this p hp e
theorem delE_nodup {x : Str} {E : List Ent} (h : (E.map (·.1)).Nodup) : ((delE x E).map (·.1)).Nodup := (List.Sublist.map _ List.filter_sublist).nodup h
theorem lockE_names (x : Str) (b : Bool) (E : List Ent) : (lockE x b E).map (·.1) = E.map (·.1) := by
  unfold lockE
  rw [List.map_map]
  apply List.map_congr_left
  intro p _
  simp only [Function.comp]
  split <;> rfl
theorem putE_length (x : Str) (v : Int) (E : List Ent) : (putE x v E).length ≤ E.length + 1 := by
  have := congrArg List.length (putE_names x v E)
  simp only [List.length_map] at this
  rw [this]
  split <;> simp
theorem delE_length (x : Str) (E : List Ent) : (delE x E).length ≤ E.length := List.length_filter_le _ _
theorem lockE_length (x : Str) (b : Bool) (E : List Ent) : (lockE x b E).length = E.length := by unfold lockE; simp
theorem look_put (x y : Str) (v : Int) : ∀ E : List Ent, look y (putE x v E) = if y = x then some (v, ((look x E).map (·.2)).getD false) else look y E
  | [] => by
    unfold putE look
    by_cases e : x = y
    · simp [e]
    · simp [e, look, Ne.symm e]
  | (z, u, b) :: r => by
    have ih := look_put x y v r
    unfold putE
    by_cases e : z = x
    · subst e
      by_cases f : y = z
      · subst f; simp [look]
      · simp [look, f, Ne.symm f]
    · simp only [e, if_false, look]
      rw [ih]
      by_cases f : y = x
      · subst f
        simp [e]
      · simp [f]
theorem look_del (x y : Str) : ∀ E : List Ent, look y (delE x E) = if y = x then none else look y E
  | [] => by simp [delE, look]
  | (z, u, b) :: r => by
    have ih := look_del x y r
    unfold delE at ih ⊢
    by_cases e : z = x
    · subst e
      simp only [List.filter_cons, decide_true, Bool.not_true, Bool.false_eq_true, if_false, ih, look]
      by_cases f : y = z
      · simp [f]
      · simp [f, Ne.symm f]
    · simp only [List.filter_cons, e, decide_false, Bool.not_false, if_true, look, ih]
      by_cases f : z = y
      · subst f; simp [e]
      · simp [f]
theorem look_lock (x y : Str) (b : Bool) : ∀ E : List Ent, look y (lockE x b E) = if y = x then (look x E).map (fun p => (p.1, b)) else look y E
  | [] => by simp [lockE, look]
  | (z, u, c) :: r => by
    have ih := look_lock x y b r
    unfold lockE at ih ⊢
    simp only [List.map_cons]
    by_cases e : z = x
    · subst e
      simp only [if_true, look]
      by_cases f : y = z
      · subst f; simp
      · simp [f, Ne.symm f, ih]
    · simp only [e, if_false, look, ih]
      by_cases f : y = x
      · subst f; simp [e]
      · simp [f]
theorem delD_lookup (x y : Str) : ∀ D : List (PyData × PyData), Spec.lookup (.str y) (delD (.str x) D) = if y = x then none else Spec.lookup (.str y) D
  | [] => by simp [delD, lookup]
  | (k, d) :: r => by
    have ih := delD_lookup x y r
    unfold delD at ih ⊢
    by_cases e : same k (.str x) = true
    · have hk : k = .str x := by cases k <;> simp [same] at e; rw [e]
      subst hk
      simp only [List.filter_cons, e, Bool.not_true, Bool.false_eq_true, if_false, ih, lookup, same_str_iff]
      by_cases f : y = x
      · simp [f]
      · simp [f, Ne.symm f]
    · have e' : same k (.str x) = false := by simpa using e
      simp only [List.filter_cons, e', Bool.not_false, if_true, lookup, ih]
      by_cases f : y = x
      · subst f; simp [e']
      · simp [f]
theorem LockRel.put {E : List Ent} {D : List (PyData × PyData)} (h : LockRel E D) (x : Str) (v : Int) : LockRel (putE x v E) D := by
  intro y
  have hy := h y
  rw [look_put]
  by_cases e : y = x
  · subst e
    simp only [if_true]
    cases q : look y E with
    | none => rw [q] at hy; exact Or.inl hy
    | some p =>
      obtain ⟨u, b⟩ := p
      rw [q] at hy
      cases b <;> exact hy
  · simp only [e, if_false]; exact hy
theorem LockRel.del {E : List Ent} {D : List (PyData × PyData)} (h : LockRel E D) (x : Str) : LockRel (delE x E) (delD (.str x) D) := by
  intro y
  have hy := h y
  rw [look_del, delD_lookup]
  by_cases e : y = x
  · simp [e]
  · simp only [e, if_false]; exact hy
theorem LockRel.del' {E : List Ent} {D : List (PyData × PyData)} (h : LockRel E D) (x : Str) (hx : Spec.lookup (.str x) D = none) : LockRel (delE x E) D := by
  intro y
  have hy := h y
  rw [look_del]
  by_cases e : y = x
  · subst e; simp [hx]
  · simp only [e, if_false]; exact hy
theorem LockRel.lock {E : List Ent} {D : List (PyData × PyData)} (h : LockRel E D) (x : Str) (b : Bool) (hx : (look x E).isSome = true) : LockRel (lockE x b E) (putD (.str x) (.bool b) D) := by
  intro y
  have hy := h y
  rw [look_lock, lookup_putD_str]
  by_cases e : y = x
  · subst e
    cases q : look y E with
    | none => rw [q] at hx; cases hx
    | some p => cases b <;> simp
  · simp only [e, if_false]; exact hy
theorem delD_length (k : PyData) (D : List (PyData × PyData)) : (delD k D).length ≤ D.length := List.length_filter_le _ _
end
section
open PySem PySem.W PySem.Calls PyProof.Rows PyProof.V
noncomputable def snap (h : Heap) (A : List Addr) : List (Addr × Obj) := A.filterMap fun a => (h.get? a).map fun o => (a, o)
theorem mem_snap {h : Heap} {A : List Addr} {p : Addr × Obj} : p ∈ snap h A ↔ p.1 ∈ A ∧ h.get? p.1 = some p.2 := by
  unfold snap
  rw [List.mem_filterMap]
  constructor
  · rintro ⟨a, ha, e⟩
    obtain ⟨o, ho, rfl⟩ := Option.map_eq_some_iff.mp e
    exact ⟨ha, ho⟩
  · rintro ⟨ha, ho⟩
    exact ⟨p.1, ha, by rw [ho]; rfl⟩
structure Keep (h : Heap) (A : List Addr) (h' : Heap) : Prop where
  get : ∀ b o, h.get? b = some o → b ∉ A → h'.get? b = some o
  live : ∀ b o, h.get? b = some o → ∃ o', h'.get? b = some o'
theorem Keep.refl (h : Heap) (A : List Addr) : Keep h A h := ⟨fun _ _ e _ => e, fun _ o e => ⟨o, e⟩⟩
theorem Keep.trans {h₁ h₂ h₃ : Heap} {A : List Addr} (x : Keep h₁ A h₂) (y : Keep h₂ A h₃) : Keep h₁ A h₃ :=
  ⟨fun b o e n => y.get b o (x.get b o e n) n, fun b o e => let ⟨o', e'⟩ := x.live b o e; y.live b o' e'⟩
theorem Keep.mono {h h' : Heap} {A A' : List Addr} (x : Keep h A h') (s : ∀ b ∈ A, b ∈ A') : Keep h A' h' := ⟨fun b o e n => x.get b o e fun m => n (s b m), x.live⟩
theorem Keep.of_stays {h h' : Heap} {A : List Addr} (x : h.StaysIn h') : Keep h A h' := ⟨fun b o e _ => x b o e, fun b o e => ⟨o, x b o e⟩⟩
structure EP where
  e : Addr
  ed : Addr
  f : Addr
  l : Addr
  num : Int
  par : Value
  E : List Ent
  cl : Bool
  k : Nat
noncomputable def EP.foot (P : EP) : List Addr := [P.e, P.ed, P.f, P.l]
structure EnvSt (w : World) (P : EP) (h : Heap) : Prop where
  inst : h.get? P.e = some (instObj 127 P.ed)
  idict : ∃ eD : ED, h.get? P.ed = some (envD eD P.num P.par P.f P.cl P.l)
  frame : ∃ o kvs, h.get? P.f = some o ∧ o.IsDictOf (strKind PR w) kvs ∧ FlatPairs PyData.str kvs (frmD P.E)
  locks : ∃ o kvs D, h.get? P.l = some o ∧ o.IsDictOf (strKind PR w) kvs ∧ FlatPairs PyData.str kvs D ∧ LockRel P.E D ∧ D.length ≤ P.k
  names : (P.E.map (·.1)).Nodup
  size : P.E.length ≤ P.k
  lowf : (P.f == sysModules) = false
  lowl : (P.l == sysModules) = false
  apart : P.foot.Nodup
theorem EnvSt.use {w : World} {P : EP} {h : Heap} {C : Prop} (S : EnvSt w P h)
    (k : ∀ (eD : ED) (of ol : Obj) (kf kl : List (Str × Value)) (D : List (PyData × PyData)), h.get? P.ed = some (envD eD P.num P.par P.f P.cl P.l) → h.get? P.f = some of → of.IsDictOf (strKind PR w) kf → FlatPairs PyData.str kf (frmD P.E) →
      h.get? P.l = some ol → ol.IsDictOf (strKind PR w) kl → FlatPairs PyData.str kl D → LockRel P.E D → D.length ≤ P.k → C) : C := by
  obtain ⟨eD, a⟩ := S.idict
  obtain ⟨of, kf, b, c, d⟩ := S.frame
  obtain ⟨ol, kl, D, e, f, g, i, j⟩ := S.locks
  exact k eD of ol kf kl D a b c d e f g i j
theorem EnvSt.keep {w : World} {P : EP} {h h' : Heap} (S : EnvSt w P h) (k : ∀ b ∈ P.foot, ∀ o, h.get? b = some o → h'.get? b = some o) : EnvSt w P h' where
  inst := k _ (by simp [EP.foot]) _ S.inst
  idict := let ⟨eD, e⟩ := S.idict; ⟨eD, k _ (by simp [EP.foot]) _ e⟩
  frame := let ⟨o, kvs, e, r⟩ := S.frame; ⟨o, kvs, k _ (by simp [EP.foot]) _ e, r⟩
  locks := let ⟨o, kvs, D, e, r⟩ := S.locks; ⟨o, kvs, D, k _ (by simp [EP.foot]) _ e, r⟩
  names := S.names
  size := S.size
  lowf := S.lowf
  lowl := S.lowl
  apart := S.apart
theorem EnvSt.there {w : World} {P : EP} {h : Heap} (S : EnvSt w P h) : ∀ b ∈ P.foot, ∃ o, h.get? b = some o := by
  intro b hb
  simp only [EP.foot, List.mem_cons, List.not_mem_nil, or_false] at hb
  rcases hb with rfl | rfl | rfl | rfl
  · exact ⟨_, S.inst⟩
  · obtain ⟨_, e⟩ := S.idict; exact ⟨_, e⟩
  · obtain ⟨o, _, e, _⟩ := S.frame; exact ⟨o, e⟩
  · obtain ⟨o, _, _, e, _⟩ := S.locks; exact ⟨o, e⟩
theorem EnvSt.mono {w : World} {P : EP} {h : Heap} {k : Nat} (S : EnvSt w P h) (hk : P.k ≤ k) : EnvSt w { P with k := k } h where
  inst := S.inst
  idict := S.idict
  frame := S.frame
  locks := let ⟨o, kvs, D, e, a, b, c, d⟩ := S.locks; ⟨o, kvs, D, e, a, b, c, Nat.le_trans d hk⟩
  names := S.names
  size := Nat.le_trans S.size hk
  lowf := S.lowf
  lowl := S.lowl
  apart := S.apart
noncomputable def Off (h₀ : Heap) (L : Addr) (A : List Addr) : Prop := ∀ b ∈ A, b ≠ L ∧ h₀.get? b = none
theorem news_snap {h₀ h : Heap} {L : Addr} {A : List Addr} (o : Off h₀ L A) : News h₀ L h (snap h A) := fun p hp => ⟨(mem_snap.mp hp).2, o _ (mem_snap.mp hp).1⟩
theorem snap_get {h₀ h h' : Heap} {L : Addr} {A : List Addr} (N : News h₀ L h' (snap h A)) {b : Addr} (hb : b ∈ A) {o : Obj} (e : h.get? b = some o) : h'.get? b = some o := (N (b, o) (mem_snap.mpr ⟨hb, e⟩)).1
theorem Off.mono {h₀ : Heap} {L : Addr} {A A' : List Addr} (x : Off h₀ L A) (s : ∀ b ∈ A', b ∈ A) : Off h₀ L A' := fun b hb => x b (s b hb)
theorem Off.of_news {h₀ h : Heap} {L : Addr} {A : List Addr} {h₁ : Heap} (N : News h₀ L h (snap h₁ A)) (t : ∀ b ∈ A, ∃ o, h₁.get? b = some o) : Off h₀ L A := fun b hb => by
  obtain ⟨o, e⟩ := t b hb
  exact (N (b, o) (mem_snap.mpr ⟨hb, e⟩)).2
structure AllSt (w : World) (P : Nat → EP) (h : Heap) : Prop where
  st : ∀ i < 4, EnvSt w (P i) h
  num : ∀ i < 4, (P i).num = i
  par0 : (P 0).par = .none
  par : ∀ i < 3, (P (i + 1)).par = .ref (P i).e
  apart : ∀ i < 4, ∀ j < 4, i ≠ j → ∀ b ∈ (P i).foot, b ∉ (P j).foot
noncomputable def feet (P : Nat → EP) : List Addr := (P 0).foot ++ (P 1).foot ++ (P 2).foot ++ (P 3).foot
theorem mem_feet {P : Nat → EP} {b : Addr} : b ∈ feet P ↔ ∃ i < 4, b ∈ (P i).foot := by
  unfold feet
  simp only [List.mem_append]
  constructor
  · rintro (((h | h) | h) | h)
    · exact ⟨0, by omega, h⟩
    · exact ⟨1, by omega, h⟩
    · exact ⟨2, by omega, h⟩
    · exact ⟨3, by omega, h⟩
  · rintro ⟨i, hi, h⟩
    rcases lt4 i hi with rfl | rfl | rfl | rfl
    · exact .inl (.inl (.inl h))
    · exact .inl (.inl (.inr h))
    · exact .inl (.inr h)
    · exact .inr h
theorem AllSt.keep {w : World} {P : Nat → EP} {h h' : Heap} (S : AllSt w P h) (k : ∀ b ∈ feet P, ∀ o, h.get? b = some o → h'.get? b = some o) : AllSt w P h' :=
  ⟨fun i hi => (S.st i hi).keep fun b hb => k b (mem_feet.mpr ⟨i, hi, hb⟩), S.num, S.par0, S.par, S.apart⟩
theorem AllSt.there {w : World} {P : Nat → EP} {h : Heap} (S : AllSt w P h) : ∀ b ∈ feet P, ∃ o, h.get? b = some o := fun b hb => by
  obtain ⟨i, hi, hb⟩ := mem_feet.mp hb
  exact (S.st i hi).there b hb
noncomputable def setP (P : Nat → EP) (i : Nat) (p : EP) : Nat → EP := fun j => if j = i then p else P j
theorem setP_of {α : Type} {P : Nat → EP} {i : Nat} {p : EP} (f : EP → α) (h : f p = f (P i)) (j : Nat) : f (setP P i p j) = f (P j) := by
  unfold setP
  split
  · rename_i q; rw [h, q]
  · rfl
theorem AllSt.set {w : World} {P : Nat → EP} {h h' : Heap} {i : Nat} {p : EP} (S : AllSt w P h) (hi : i < 4) (Sp : EnvSt w p h') (k : Keep h (P i).foot h')
    (hf : p.foot = (P i).foot) (hn : p.num = (P i).num) (hp : p.par = (P i).par) (he : p.e = (P i).e) : AllSt w (setP P i p) h' := by
  have ft : ∀ j, (setP P i p j).foot = (P j).foot := setP_of EP.foot hf
  have ee : ∀ j, (setP P i p j).e = (P j).e := setP_of EP.e he
  have pp : ∀ j, (setP P i p j).par = (P j).par := setP_of EP.par hp
  have nn : ∀ j, (setP P i p j).num = (P j).num := setP_of EP.num hn
  refine ⟨fun j hj => ?_, fun j hj => by rw [nn]; exact S.num j hj, by rw [pp]; exact S.par0, fun j hj => by rw [pp, ee]; exact S.par j hj, fun j hj l hl ne => by rw [ft, ft]; exact S.apart j hj l hl ne⟩
  by_cases q : j = i
  · subst q; unfold setP; rw [if_pos rfl]; exact Sp
  · unfold setP; rw [if_neg q]
    exact (S.st j hj).keep fun b hb o e => k.get b o e (S.apart j hj i hi q b hb)
theorem setP_feet {P : Nat → EP} {i : Nat} {p : EP} (hf : p.foot = (P i).foot) : feet (setP P i p) = feet P := by
  have ft : ∀ j, (setP P i p j).foot = (P j).foot := setP_of EP.foot hf
  unfold feet
  rw [ft, ft, ft, ft]
end
local macro_rules | `(tactic| walk_at $s:str) => `(tactic| k_extra $(Lean.Syntax.mkStrLit ("m " ++ s.getString)))
local macro_rules | `(tactic| k_room) => `(tactic| k_extra "m k_room")
local macro_rules | `(tactic| k_units) => `(tactic| k_extra "m k_units")
local macro_rules | `(tactic| k_all) => `(tactic| k_extra "m k_all")
section
open PySem PySem.W PySem.Calls PyProof.Rows PyProof.V PySem.W.X
set_option linter.unusedVariables false
theorem keep_of {h g h' : Heap} {L' : Addr} {m' : Str → Option Value} {led led' : List (Addr × Obj)} (HD : Hides h led g) (F' : Fr g L' h' m') (N' : News g L' h' led') (A : List Addr)
    (h1 : ∀ p ∈ led, p.1 ∈ A ∨ p ∈ led') (h2 : led.map (·.1) = led'.map (·.1)) : Keep h A h' := by
  refine ⟨fun b o e nb => ?_, fun b o e => ?_⟩
  · by_cases q : ∃ p ∈ led, p.1 = b
    · obtain ⟨p, hp, rfl⟩ := q
      have := HD.at_ p hp
      rw [e] at this
      rcases h1 p hp with z | z
      · exact absurd z nb
      · rw [Option.some.inj this]; exact (N' p z).1
    · exact F'.keep _ _ (HD.get b o e fun p hp z => q ⟨p, hp, z⟩)
  · by_cases q : ∃ p ∈ led, p.1 = b
    · obtain ⟨p, hp, rfl⟩ := q
      have hm : p.1 ∈ led'.map (·.1) := h2 ▸ List.mem_map_of_mem hp
      obtain ⟨q, hq, hqp⟩ := List.mem_map.mp hm
      exact ⟨q.2, hqp ▸ (N' q hq).1⟩
    · exact ⟨o, F'.keep _ _ (HD.get b o e fun p hp z => q ⟨p, hp, z⟩)⟩
theorem stays_of {h g h' : Heap} {L' : Addr} {m' : Str → Option Value} {led : List (Addr × Obj)} (HD : Hides h led g) (F' : Fr g L' h' m') (N' : News g L' h' led) : h.StaysIn h' := fun b o e =>
  (keep_of HD F' N' [] (fun _ hp => .inr hp) rfl).get b o e (by simp)
theorem litA : (Str.ofString "cannot change value of locked binding for '").length ≤ 100 := by decide +kernel
theorem litB : (Str.ofString "'").length ≤ 10 := by decide +kernel
theorem sz_line : sizeLine = 16777216 := sizeLine_eq
theorem said_Env_1 : True := by
  k_with_none
  (k_with "m binaryOp Add str str" => (k_here; (with_reducible show wpAny _ _ (binaryOp Operator.Add (Value.str _ _) (Value.str _ _)) _ _ _); (refine' PyProof.Rows.add_str ?hh ?hsz; (case hsz => (have e1 := litA; have e2 := litB; have e3 := sz_line; (try rw [StrLaws.length_append]); omega)); intro t9 k9)))
  (k_with "m k_room" => first | k_dflt exact room_lt (k := 1) hdp rfl | k_dflt exact room_lt (k := 2) hdp rfl | k_dflt exact room_lt (k := 3) hdp rfl | k_dflt exact room_lt (k := 4) hdp rfl | k_dflt exact room_lt (k := 0) hdp rfl | decide | ((try simp only [depth_mark, depth_under_make, depth_under_kw, depth_in1, depth_deeper, depth_caller]); (try dsimp only [ktrTop]); (show (_ : Nat) < 1000); omega))
  (k_with "m k_units" => first | k_dflt exact unit_lt (k := 0) hun rfl | k_dflt exact unit_lt (k := 1) hun rfl | k_dflt exact unit_lt (k := 2) hun rfl | exact Nat.le_of_ble_eq_true rfl | ((try simp only [units_in1, units_deeper, Around.mark_units, units_caller]); (try dsimp only [ktrTop]); (show (_ : Nat) < 9900); omega))
  (k_with "m exec Raise some none" => (k_here; k_dflt (refine' raise_own ?hh ?_; (case hh => exact rfl))))
  (k_with "m call ref" => (k_here; (with_reducible show wpAny _ _ (call (Value.ref 44) [Value.str _ _]) _ _ _); (rename Fr _ _ _ _ => mF); k_dflt ((refine mk_K (by k_asm) mF (by k_asm) (by k_asm) (by (show (_ : Nat) ≤ 400; dsimp only; omega)) ?_); intro e dx t h' tk hh tm n F' N' st e1 e2 ne X'; (refine ⟨_, _, _, rfl, (N' _ (List.Mem.head _)).1, X', ?_⟩); (try k_unfold); (try dsimp only); (refine leave_refused (by k_asm) mF e1 e2 F' (N' _ (List.Mem.head _)).1 (N' _ (List.Mem.tail _ (List.Mem.head _))).1 (by first | assumption | exact stays_of (by assumption) mF (by k_asm)) st (by assumption) ?_ (by rfl)); intro h9 R9; (try dsimp only))))
  (k_with "m setItem ref str" => (k_here; k_dflt (refine' setItem_K PyProof.V.same_str (strKind_is _ _ _ _) ?v ?F ?N ?U ?d ?f ?_ ?z; (case F => k_asm); (case N => k_asm); (case U => k_updF); (case d => k_asm); (case f => k_asm); (case z => assumption); (case v => k_flat)); intro h' o' F' N' hd' hf'; (try dsimp only at N'); (try k_sweep)))
  (k_with "m M enter" => (refine wpAny_call ?_; k_dflt (refine' enter ?k1 ?k2 ?k3 ?k4 ?k5 ?kA ?kF ?kK ?k6 ?k7 ?k8 ?k9 ?kB ?_ ?c2 ?c3 ?c4 ?c5; (case kA => exact rfl); (case kF => exact rfl); (case kK => first | assumption | exact rfl); (case k1 => k_asm); (case k2 => k_asm); (case k3 => k_asm); (case k4 => k_asm); (case k5 => k_asm); (case k6 => k_is); (case k7 => k_is); (case k8 => (show (_ : Nat) < 1000; dsimp only; omega)); (case k9 => exact BindsTo.of_eq rfl); (case c5 => decide); (case kB => exact locs rfl); (case c2 => exact rfl); (case c3 => exact rfl); (case c4 => exact rfl); k_whole)))
  trivial
section
variable {w : World} {mean : ExcName → Option Value} {mg mb : Str → Option Value} {dp un : Nat} {gd : Option (List Code)} {cn : Str} {cs : Scope} {a : Addr} {ccd : Value} {cl : List (Str × Addr)} {outer : List Env} {A₀ : Around} {base h₀ : Heap} {L : Addr} {m : Str → Option Value} {s : Shared} {Q E : Value → Shared → Prop}
 {eD : ED} {num : Int} {par : Value} {fr ls e ed : Addr} {lk : Bool} {n : Nat}
   {of ol : Obj} {kf kl : List (Str × Value)} {Df Dl : List (PyData × PyData)} {x : Str} {tx : Tok} {v : Int} {tv : Tok}
set_option maxRecDepth 100000 in
set_option maxHeartbeats 8000000 in
theorem define_add
   (B : Below A₀ base outer h₀) (F : Fr h₀ L s.heap m) (X : (hd.heap_39 w.params).In h₀) (T : Top VW LO mean mg mb h₀) (hk : cs.kind = .function) (hdp : dp ≤ 390) (hun : un ≤ 900)
   (N : News h₀ L s.heap [(e, instObj 127 ed), (ed, envD eD num par fr lk ls), (ls, ol), (fr, of)])
   (hof : of.IsDictOf (strKind PR w) kf) (hff : FlatPairs PyData.str kf Df) (hol : ol.IsDictOf (strKind PR w) kl) (hfl : FlatPairs PyData.str kl Dl)
   (lof : (fr == sysModules) = false) (lol : (ls == sysModules) = false)
   (d1 : @Ne Nat e ed) (d2 : @Ne Nat e ls) (d3 : @Ne Nat e fr) (d4 : @Ne Nat ed ls) (d5 : @Ne Nat ed fr) (d6 : @Ne Nat ls fr)
   (hlen : Df.length ≤ sizeLine) (hlen' : Dl.length ≤ sizeLine) (hxl : x.length ≤ 100)
   (hl : Spec.lookup (.str x) Dl = none) (hf : (Spec.lookup (.str x) Df).isSome = false) (hlk : lk = false)
   (k : ∀ h' tk' o', Fr h₀ L h' m → h'.get? fr = some o' → Keep s.heap [fr] h' →
      o'.IsDictOf (strKind PR w) (stored kf x (.int v tv)) → FlatPairs PyData.str (stored kf x (.int v tv)) (putD (.str x) (.int v) Df) → Q .none { s with heap := h', toks := tk' })
   : wpAny (model PR w) (ktrTop dp un gd cn cs L a ccd cl outer) (call (.ref 81) [.ref e, .str x tx, .int v tv]) Q E s := by
  subst hlk
  walk_at "M enter"
  intro g h₁ FG F' N' B' X' T' HD
  have st9 : s.heap.StaysIn h₁ := stays_of HD F' N'
  have sL9 : s.heap.get? s.heap.objs.size = none := Heap.get?_none_of_le (Nat.le_refl _)
  try dsimp only
  try k_fold
  k_steps
  all_goals ((rename News g _ _ _ => n9); (rename Fr g _ _ _ => f9); exact k _ _ _ (by k_asm) (n9 _ (.tail _ (.tail _ (.tail _ (.head _))))).1 (keep_of HD f9 n9 _ (by simp) rfl) (by assumption) (by assumption))
set_option maxRecDepth 100000 in
set_option maxHeartbeats 8000000 in
theorem define_closed
   (B : Below A₀ base outer h₀) (F : Fr h₀ L s.heap m) (X : (hd.heap_39 w.params).In h₀) (T : Top VW LO mean mg mb h₀) (hk : cs.kind = .function) (hdp : dp ≤ 390) (hun : un ≤ 900)
   (N : News h₀ L s.heap [(e, instObj 127 ed), (ed, envD eD num par fr lk ls), (ls, ol), (fr, of)])
   (hof : of.IsDictOf (strKind PR w) kf) (hff : FlatPairs PyData.str kf Df) (hol : ol.IsDictOf (strKind PR w) kl) (hfl : FlatPairs PyData.str kl Dl)
   (lof : (fr == sysModules) = false) (lol : (ls == sysModules) = false)
   (d1 : @Ne Nat e ed) (d2 : @Ne Nat e ls) (d3 : @Ne Nat e fr) (d4 : @Ne Nat ed ls) (d5 : @Ne Nat ed fr) (d6 : @Ne Nat ls fr)
   (hlen : Df.length ≤ sizeLine) (hlen' : Dl.length ≤ sizeLine) (hxl : x.length ≤ 100)
   (hl : Spec.lookup (.str x) Dl = none) (hf : (Spec.lookup (.str x) Df).isSome = false) (hlk : lk = true)
   (hE : ∀ e dx h' tk, Refused s.heap (envX cn cs L a ccd cl :: outer) e dx addMsg h' → E (.ref e) { s with heap := h', toks := tk })
   : wpAny (model PR w) (ktrTop dp un gd cn cs L a ccd cl outer) (call (.ref 81) [.ref e, .str x tx, .int v tv]) Q E s := by
  subst hlk
  walk_at "M enter"
  intro g h₁ FG F' N' B' X' T' HD
  have st9 : s.heap.StaysIn h₁ := stays_of HD F' N'
  have sL9 : s.heap.get? s.heap.objs.size = none := Heap.get?_none_of_le (Nat.le_refl _)
  try dsimp only
  try k_fold
  k_steps
  all_goals exact hE _ _ _ _ (by assumption)
set_option maxRecDepth 100000 in
set_option maxHeartbeats 8000000 in
theorem define_locked
   (B : Below A₀ base outer h₀) (F : Fr h₀ L s.heap m) (X : (hd.heap_39 w.params).In h₀) (T : Top VW LO mean mg mb h₀) (hk : cs.kind = .function) (hdp : dp ≤ 390) (hun : un ≤ 900)
   (N : News h₀ L s.heap [(e, instObj 127 ed), (ed, envD eD num par fr lk ls), (ls, ol), (fr, of)])
   (hof : of.IsDictOf (strKind PR w) kf) (hff : FlatPairs PyData.str kf Df) (hol : ol.IsDictOf (strKind PR w) kl) (hfl : FlatPairs PyData.str kl Dl)
   (lof : (fr == sysModules) = false) (lol : (ls == sysModules) = false)
   (d1 : @Ne Nat e ed) (d2 : @Ne Nat e ls) (d3 : @Ne Nat e fr) (d4 : @Ne Nat ed ls) (d5 : @Ne Nat ed fr) (d6 : @Ne Nat ls fr)
   (hlen : Df.length ≤ sizeLine) (hlen' : Dl.length ≤ sizeLine) (hxl : x.length ≤ 100)
   (hl : Spec.lookup (.str x) Dl = some (.bool true)) (hf : (Spec.lookup (.str x) Df).isSome = true)
   (hE : ∀ e dx h' tk, Refused s.heap (envX cn cs L a ccd cl :: outer) e dx (lockedMsg x) h' → E (.ref e) { s with heap := h', toks := tk })
   : wpAny (model PR w) (ktrTop dp un gd cn cs L a ccd cl outer) (call (.ref 81) [.ref e, .str x tx, .int v tv]) Q E s := by
  walk_at "M enter"
  intro g h₁ FG F' N' B' X' T' HD
  have st9 : s.heap.StaysIn h₁ := stays_of HD F' N'
  have sL9 : s.heap.get? s.heap.objs.size = none := Heap.get?_none_of_le (Nat.le_refl _)
  try dsimp only
  try k_fold
  k_steps
  all_goals exact hE _ _ _ _ (by assumption)
set_option maxRecDepth 100000 in
set_option maxHeartbeats 8000000 in
theorem define_set0
   (B : Below A₀ base outer h₀) (F : Fr h₀ L s.heap m) (X : (hd.heap_39 w.params).In h₀) (T : Top VW LO mean mg mb h₀) (hk : cs.kind = .function) (hdp : dp ≤ 390) (hun : un ≤ 900)
   (N : News h₀ L s.heap [(e, instObj 127 ed), (ed, envD eD num par fr lk ls), (ls, ol), (fr, of)])
   (hof : of.IsDictOf (strKind PR w) kf) (hff : FlatPairs PyData.str kf Df) (hol : ol.IsDictOf (strKind PR w) kl) (hfl : FlatPairs PyData.str kl Dl)
   (lof : (fr == sysModules) = false) (lol : (ls == sysModules) = false)
   (d1 : @Ne Nat e ed) (d2 : @Ne Nat e ls) (d3 : @Ne Nat e fr) (d4 : @Ne Nat ed ls) (d5 : @Ne Nat ed fr) (d6 : @Ne Nat ls fr)
   (hlen : Df.length ≤ sizeLine) (hlen' : Dl.length ≤ sizeLine) (hxl : x.length ≤ 100)
   (hl : Spec.lookup (.str x) Dl = none) (hf : (Spec.lookup (.str x) Df).isSome = true)
   (k : ∀ h' tk' o', Fr h₀ L h' m → h'.get? fr = some o' → Keep s.heap [fr] h' →
      o'.IsDictOf (strKind PR w) (stored kf x (.int v tv)) → FlatPairs PyData.str (stored kf x (.int v tv)) (putD (.str x) (.int v) Df) → Q .none { s with heap := h', toks := tk' })
   : wpAny (model PR w) (ktrTop dp un gd cn cs L a ccd cl outer) (call (.ref 81) [.ref e, .str x tx, .int v tv]) Q E s := by
  walk_at "M enter"
  intro g h₁ FG F' N' B' X' T' HD
  have st9 : s.heap.StaysIn h₁ := stays_of HD F' N'
  have sL9 : s.heap.get? s.heap.objs.size = none := Heap.get?_none_of_le (Nat.le_refl _)
  try dsimp only
  try k_fold
  k_steps
  all_goals ((rename News g _ _ _ => n9); (rename Fr g _ _ _ => f9); exact k _ _ _ (by k_asm) (n9 _ (.tail _ (.tail _ (.tail _ (.head _))))).1 (keep_of HD f9 n9 _ (by simp) rfl) (by assumption) (by assumption))
set_option maxRecDepth 100000 in
set_option maxHeartbeats 8000000 in
theorem define_set1
   (B : Below A₀ base outer h₀) (F : Fr h₀ L s.heap m) (X : (hd.heap_39 w.params).In h₀) (T : Top VW LO mean mg mb h₀) (hk : cs.kind = .function) (hdp : dp ≤ 390) (hun : un ≤ 900)
   (N : News h₀ L s.heap [(e, instObj 127 ed), (ed, envD eD num par fr lk ls), (ls, ol), (fr, of)])
   (hof : of.IsDictOf (strKind PR w) kf) (hff : FlatPairs PyData.str kf Df) (hol : ol.IsDictOf (strKind PR w) kl) (hfl : FlatPairs PyData.str kl Dl)
   (lof : (fr == sysModules) = false) (lol : (ls == sysModules) = false)
   (d1 : @Ne Nat e ed) (d2 : @Ne Nat e ls) (d3 : @Ne Nat e fr) (d4 : @Ne Nat ed ls) (d5 : @Ne Nat ed fr) (d6 : @Ne Nat ls fr)
   (hlen : Df.length ≤ sizeLine) (hlen' : Dl.length ≤ sizeLine) (hxl : x.length ≤ 100)
   (hl : Spec.lookup (.str x) Dl = some (.bool false)) (hf : (Spec.lookup (.str x) Df).isSome = true)
   (k : ∀ h' tk' o', Fr h₀ L h' m → h'.get? fr = some o' → Keep s.heap [fr] h' →
      o'.IsDictOf (strKind PR w) (stored kf x (.int v tv)) → FlatPairs PyData.str (stored kf x (.int v tv)) (putD (.str x) (.int v) Df) → Q .none { s with heap := h', toks := tk' })
   : wpAny (model PR w) (ktrTop dp un gd cn cs L a ccd cl outer) (call (.ref 81) [.ref e, .str x tx, .int v tv]) Q E s := by
  walk_at "M enter"
  intro g h₁ FG F' N' B' X' T' HD
  have st9 : s.heap.StaysIn h₁ := stays_of HD F' N'
  have sL9 : s.heap.get? s.heap.objs.size = none := Heap.get?_none_of_le (Nat.le_refl _)
  try dsimp only
  try k_fold
  k_steps
  all_goals ((rename News g _ _ _ => n9); (rename Fr g _ _ _ => f9); exact k _ _ _ (by k_asm) (n9 _ (.tail _ (.tail _ (.tail _ (.head _))))).1 (keep_of HD f9 n9 _ (by simp) rfl) (by assumption) (by assumption))
end
section
variable {w : World} {mean : ExcName → Option Value} {mg mb : Str → Option Value} {dp un : Nat} {gd : Option (List Code)} {cn : Str} {cs : Scope} {a : Addr} {ccd : Value} {cl : List (Str × Addr)} {outer : List Env} {A₀ : Around} {base h₀ : Heap} {L : Addr} {m : Str → Option Value} {s : Shared} {Q E : Value → Shared → Prop}
  {P : EP} {x : Str} {tx : Tok} {v : Int} {tv : Tok}
theorem apart6 {P : EP} (h : P.foot.Nodup) : @Ne Nat P.e P.ed ∧ @Ne Nat P.e P.l ∧ @Ne Nat P.e P.f ∧ @Ne Nat P.ed P.l ∧ @Ne Nat P.ed P.f ∧ @Ne Nat P.l P.f := by
  simp only [EP.foot, List.nodup_cons, List.mem_cons, List.not_mem_nil, or_false, not_or] at h
  obtain ⟨⟨a, b, c⟩, ⟨d, e⟩, f, _⟩ := h
  exact ⟨a, c, b, e, d, fun q => f q.symm⟩
theorem news4 {h₀ h : Heap} {L : Addr} {P : EP} {o1 o2 o3 o4 : Obj} (O : Off h₀ L P.foot) (h1 : h.get? P.e = some o1) (h2 : h.get? P.ed = some o2) (h3 : h.get? P.l = some o3) (h4 : h.get? P.f = some o4) :
    News h₀ L h [(P.e, o1), (P.ed, o2), (P.l, o3), (P.f, o4)] := by
  intro p hp
  rcases el4 hp with z | z | z | z
  · rw [z]; exact ⟨h1, O _ (by simp [EP.foot])⟩
  · rw [z]; exact ⟨h2, O _ (by simp [EP.foot])⟩
  · rw [z]; exact ⟨h3, O _ (by simp [EP.foot])⟩
  · rw [z]; exact ⟨h4, O _ (by simp [EP.foot])⟩
theorem define_spec
   (B : Below A₀ base outer h₀) (F : Fr h₀ L s.heap m) (X : (hd.heap_39 w.params).In h₀) (T : Top VW LO mean mg mb h₀) (hk : cs.kind = .function) (hdp : dp ≤ 390) (hun : un ≤ 900)
   (S : EnvSt w P s.heap) (O : Off h₀ L P.foot) (hsz : P.k ≤ 10000) (hxl : x.length ≤ 100)
   (ok : ∀ h' tk', (bindR P.E P.cl x v).1 = none → Fr h₀ L h' m → EnvSt w { P with E := (bindR P.E P.cl x v).2, k := P.k + 1 } h' → Keep s.heap [P.f] h' → Q .none { s with heap := h', toks := tk' })
   (bad : ∀ msg e dx h' tk', (bindR P.E P.cl x v).1 = some msg → Refused s.heap (envX cn cs L a ccd cl :: outer) e dx msg h' → E (.ref e) { s with heap := h', toks := tk' }) :
   wpAny (model PR w) (ktrTop dp un gd cn cs L a ccd cl outer) (call (.ref 81) [.ref P.e, .str x tx, .int v tv]) Q E s := by
  refine S.use fun eD of ol kf kl Dl hd hof hof' hff hol hol' hfl lr hDl => ?_
  obtain ⟨d1, d2, d3, d4, d5, d6⟩ := apart6 S.apart
  have N := news4 O S.inst hd hol hof
  have hlen : (frmD P.E).length ≤ sizeLine := by rw [frmD_length]; have := S.size; have := sizeLine_eq; omega
  have hlen' : Dl.length ≤ sizeLine := by have := sizeLine_eq; omega
  have lx := lr x
  have lf := frmD_lookup x P.E
  -- what a store leaves
  have done : (bindR P.E P.cl x v).1 = none → (bindR P.E P.cl x v).2 = putE x v P.E → ∀ h' tk' o', Fr h₀ L h' m → h'.get? P.f = some o' → Keep s.heap [P.f] h' →
      o'.IsDictOf (strKind PR w) (stored kf x (.int v tv)) → FlatPairs PyData.str (stored kf x (.int v tv)) (putD (.str x) (.int v) (frmD P.E)) → Q .none { s with heap := h', toks := tk' } := by
    intro e1 e2 h' tk' o' F' ho' K hd' hf'
    refine ok h' tk' e1 F' ?_ K
    rw [e2]
    have k1 : ∀ b ∈ P.foot, b ≠ P.f → ∀ o, s.heap.get? b = some o → h'.get? b = some o := fun b _ nb o e => K.get b o e (by simpa using nb)
    refine ⟨k1 _ (by simp [EP.foot]) d3 _ S.inst, ⟨eD, k1 _ (by simp [EP.foot]) d5 _ hd⟩, ⟨o', _, ho', hd', by rw [frmD_put x v P.E S.names]; exact hf'⟩,
      ⟨ol, kl, Dl, k1 _ (by simp [EP.foot]) d6 _ hol, hol', hfl, lr.put x v, by show _ ≤ P.k + 1; omega⟩, putE_nodup S.names, ?_, S.lowf, S.lowl, S.apart⟩
    show (putE x v P.E).length ≤ P.k + 1
    have := putE_length x v P.E; have := S.size; omega
  unfold bindR at ok bad done
  cases q : look x P.E with
  | none =>
    rw [q] at lx lf ok bad done
    cases c : P.cl with
    | false =>
      rw [c] at done hd N
      exact define_add B F X T hk hdp hun N hof' hff hol' hfl S.lowf S.lowl d1 d2 d3 d4 d5 d6 hlen hlen' hxl lx (by rw [lf]; rfl) rfl (done rfl rfl)
    | true =>
      rw [c] at bad hd N
      exact define_closed B F X T hk hdp hun N hof' hff hol' hfl S.lowf S.lowl d1 d2 d3 d4 d5 d6 hlen hlen' hxl lx (by rw [lf]; rfl) rfl (fun e dx h' tk R => bad addMsg e dx h' tk rfl R)
  | some p =>
    obtain ⟨u, b⟩ := p
    rw [q] at lx lf ok bad done
    cases b with
    | true => exact define_locked B F X T hk hdp hun N hof' hff hol' hfl S.lowf S.lowl d1 d2 d3 d4 d5 d6 hlen hlen' hxl lx (by rw [lf]; rfl) (fun e dx h' tk R => bad (lockedMsg x) e dx h' tk rfl R)
    | false =>
      rcases lx with lx | lx
      · exact define_set0 B F X T hk hdp hun N hof' hff hol' hfl S.lowf S.lowl d1 d2 d3 d4 d5 d6 hlen hlen' hxl lx (by rw [lf]; rfl) (done rfl rfl)
      · exact define_set1 B F X T hk hdp hun N hof' hff hol' hfl S.lowf S.lowl d1 d2 d3 d4 d5 d6 hlen hlen' hxl lx (by rw [lf]; rfl) (done rfl rfl)
end
end
section
open PySem PySem.W PySem.Calls PyProof.Rows PyProof.V PySem.W.X
set_option linter.unusedVariables false
theorem said_Rem_1 : True := by
  k_with_none
  (k_with "m binaryOp Add str str" => (k_here; (with_reducible show wpAny _ _ (binaryOp Operator.Add (Value.str _ _) (Value.str _ _)) _ _ _); (refine' PyProof.Rows.add_str ?hh ?hsz; (case hsz => (have e1 := litA; have e2 := litB; have e3 := sz_line; (try rw [StrLaws.length_append]); omega)); intro t9 k9)))
  (k_with "m k_room" => first | k_dflt exact room_lt (k := 1) hdp rfl | k_dflt exact room_lt (k := 2) hdp rfl | k_dflt exact room_lt (k := 3) hdp rfl | k_dflt exact room_lt (k := 4) hdp rfl | k_dflt exact room_lt (k := 0) hdp rfl | decide | ((try simp only [depth_mark, depth_under_make, depth_under_kw, depth_in1, depth_deeper, depth_caller]); (try dsimp only [ktrTop]); (show (_ : Nat) < 1000); omega))
  (k_with "m k_units" => first | k_dflt exact unit_lt (k := 0) hun rfl | k_dflt exact unit_lt (k := 1) hun rfl | k_dflt exact unit_lt (k := 2) hun rfl | exact Nat.le_of_ble_eq_true rfl | ((try simp only [units_in1, units_deeper, Around.mark_units, units_caller]); (try dsimp only [ktrTop]); (show (_ : Nat) < 9900); omega))
  (k_with "m exec Raise some none" => (k_here; k_dflt (refine' raise_own ?hh ?_; (case hh => exact rfl))))
  (k_with "m call ref" => (k_here; (with_reducible show wpAny _ _ (call (Value.ref 44) [Value.str _ _]) _ _ _); (rename Fr _ _ _ _ => mF); k_dflt ((refine mk_K (by k_asm) mF (by k_asm) (by k_asm) (by (show (_ : Nat) ≤ 400; dsimp only; omega)) ?_); intro e dx t h' tk hh tm n F' N' st e1 e2 ne X'; (refine ⟨_, _, _, rfl, (N' _ (List.Mem.head _)).1, X', ?_⟩); (try k_unfold); (try dsimp only); (refine leave_refused (by k_asm) mF e1 e2 F' (N' _ (List.Mem.head _)).1 (N' _ (List.Mem.tail _ (List.Mem.head _))).1 (by first | assumption | exact stays_of (by assumption) mF (by k_asm)) st (by assumption) ?_ (by rfl)); intro h9 R9; (try dsimp only))))
  (k_with "m setItem ref str" => (k_here; k_dflt (refine' setItem_K PyProof.V.same_str (strKind_is _ _ _ _) ?v ?F ?N ?U ?d ?f ?_ ?z; (case F => k_asm); (case N => k_asm); (case U => k_updF); (case d => k_asm); (case f => k_asm); (case z => assumption); (case v => k_flat)); intro h' o' F' N' hd' hf'; (try dsimp only at N'); (try k_sweep)))
  (k_with "m M enter" => (refine wpAny_call ?_; k_dflt (refine' enter ?k1 ?k2 ?k3 ?k4 ?k5 ?kA ?kF ?kK ?k6 ?k7 ?k8 ?k9 ?kB ?_ ?c2 ?c3 ?c4 ?c5; (case kA => exact rfl); (case kF => exact rfl); (case kK => first | assumption | exact rfl); (case k1 => k_asm); (case k2 => k_asm); (case k3 => k_asm); (case k4 => k_asm); (case k5 => k_asm); (case k6 => k_is); (case k7 => k_is); (case k8 => (show (_ : Nat) < 1000; dsimp only; omega)); (case k9 => exact BindsTo.of_eq rfl); (case c5 => decide); (case kB => exact locs rfl); (case c2 => exact rfl); (case c3 => exact rfl); (case c4 => exact rfl); k_whole)))
  (k_with "m delItem ref str" => (k_here; k_dflt (refine' kt_del_K PyProof.V.same_str (strKind_is _ _ _ _) ?F ?N ?U ?d ?f ?l ?_ ?z; (case F => k_asm); (case N => k_asm); (case U => k_updF); (case d => k_asm); (case f => k_asm); (case l => first | with_reducible assumption | rfl); (case z => assumption)); intro h' o' F' N' hd' hf'; try dsimp only at N'))
  trivial
section
variable {w : World} {mean : ExcName → Option Value} {mg mb : Str → Option Value} {dp un : Nat} {gd : Option (List Code)} {cn : Str} {cs : Scope} {a : Addr} {ccd : Value} {cl : List (Str × Addr)} {outer : List Env} {A₀ : Around} {base h₀ : Heap} {L : Addr} {m : Str → Option Value} {s : Shared} {Q E : Value → Shared → Prop}
 {eD : ED} {num : Int} {par : Value} {fr ls e ed : Addr} {lk : Bool} {n : Nat}
   {of ol : Obj} {kf kl : List (Str × Value)} {Df Dl : List (PyData × PyData)} {x : Str} {tx : Tok} {v : Int} {tv : Tok}
set_option maxRecDepth 100000 in
set_option maxHeartbeats 8000000 in
theorem remove_no
   (B : Below A₀ base outer h₀) (F : Fr h₀ L s.heap m) (X : (hd.heap_39 w.params).In h₀) (T : Top VW LO mean mg mb h₀) (hk : cs.kind = .function) (hdp : dp ≤ 390) (hun : un ≤ 900)
   (N : News h₀ L s.heap [(e, instObj 127 ed), (ed, envD eD num par fr lk ls), (ls, ol), (fr, of)])
   (hof : of.IsDictOf (strKind PR w) kf) (hff : FlatPairs PyData.str kf Df) (hol : ol.IsDictOf (strKind PR w) kl) (hfl : FlatPairs PyData.str kl Dl)
   (lof : (fr == sysModules) = false) (lol : (ls == sysModules) = false)
   (d1 : @Ne Nat e ed) (d2 : @Ne Nat e ls) (d3 : @Ne Nat e fr) (d4 : @Ne Nat ed ls) (d5 : @Ne Nat ed fr) (d6 : @Ne Nat ls fr)
   (hlen : Df.length ≤ sizeLine) (hlen' : Dl.length ≤ sizeLine) (hxl : x.length ≤ 100)
   (hf : (Spec.lookup (.str x) Df).isSome = false)
   (k : ∀ h' tk', Fr h₀ L h' m → Keep s.heap [] h' → Q (.bool false) { s with heap := h', toks := tk' })
   : wpAny (model PR w) (ktrTop dp un gd cn cs L a ccd cl outer) (call (.ref 102) [.ref e, .str x tx]) Q E s := by
  walk_at "M enter"
  intro g h₁ FG F' N' B' X' T' HD
  have st9 : s.heap.StaysIn h₁ := stays_of HD F' N'
  have sL9 : s.heap.get? s.heap.objs.size = none := Heap.get?_none_of_le (Nat.le_refl _)
  try dsimp only
  try k_fold
  k_steps
  all_goals ((rename News g _ _ _ => n9); (rename Fr g _ _ _ => f9); exact k _ _ (by k_asm) (keep_of HD f9 n9 _ (fun _ h => .inr h) rfl))
set_option maxRecDepth 100000 in
set_option maxHeartbeats 8000000 in
theorem remove_closed
   (B : Below A₀ base outer h₀) (F : Fr h₀ L s.heap m) (X : (hd.heap_39 w.params).In h₀) (T : Top VW LO mean mg mb h₀) (hk : cs.kind = .function) (hdp : dp ≤ 390) (hun : un ≤ 900)
   (N : News h₀ L s.heap [(e, instObj 127 ed), (ed, envD eD num par fr lk ls), (ls, ol), (fr, of)])
   (hof : of.IsDictOf (strKind PR w) kf) (hff : FlatPairs PyData.str kf Df) (hol : ol.IsDictOf (strKind PR w) kl) (hfl : FlatPairs PyData.str kl Dl)
   (lof : (fr == sysModules) = false) (lol : (ls == sysModules) = false)
   (d1 : @Ne Nat e ed) (d2 : @Ne Nat e ls) (d3 : @Ne Nat e fr) (d4 : @Ne Nat ed ls) (d5 : @Ne Nat ed fr) (d6 : @Ne Nat ls fr)
   (hlen : Df.length ≤ sizeLine) (hlen' : Dl.length ≤ sizeLine) (hxl : x.length ≤ 100)
   (hf : (Spec.lookup (.str x) Df).isSome = true) (hlk : lk = true)
   (hE : ∀ e dx h' tk, Refused s.heap (envX cn cs L a ccd cl :: outer) e dx delMsg h' → E (.ref e) { s with heap := h', toks := tk })
   : wpAny (model PR w) (ktrTop dp un gd cn cs L a ccd cl outer) (call (.ref 102) [.ref e, .str x tx]) Q E s := by
  subst hlk
  walk_at "M enter"
  intro g h₁ FG F' N' B' X' T' HD
  have st9 : s.heap.StaysIn h₁ := stays_of HD F' N'
  have sL9 : s.heap.get? s.heap.objs.size = none := Heap.get?_none_of_le (Nat.le_refl _)
  try dsimp only
  try k_fold
  k_steps
  all_goals exact hE _ _ _ _ (by assumption)
set_option maxRecDepth 100000 in
set_option maxHeartbeats 8000000 in
theorem remove_done0
   (B : Below A₀ base outer h₀) (F : Fr h₀ L s.heap m) (X : (hd.heap_39 w.params).In h₀) (T : Top VW LO mean mg mb h₀) (hk : cs.kind = .function) (hdp : dp ≤ 390) (hun : un ≤ 900)
   (N : News h₀ L s.heap [(e, instObj 127 ed), (ed, envD eD num par fr lk ls), (ls, ol), (fr, of)])
   (hof : of.IsDictOf (strKind PR w) kf) (hff : FlatPairs PyData.str kf Df) (hol : ol.IsDictOf (strKind PR w) kl) (hfl : FlatPairs PyData.str kl Dl)
   (lof : (fr == sysModules) = false) (lol : (ls == sysModules) = false)
   (d1 : @Ne Nat e ed) (d2 : @Ne Nat e ls) (d3 : @Ne Nat e fr) (d4 : @Ne Nat ed ls) (d5 : @Ne Nat ed fr) (d6 : @Ne Nat ls fr)
   (hlen : Df.length ≤ sizeLine) (hlen' : Dl.length ≤ sizeLine) (hxl : x.length ≤ 100)
   (hf : (Spec.lookup (.str x) Df).isSome = true) (hl : (Spec.lookup (.str x) Dl).isSome = false) (hlk : lk = false)
   (k : ∀ h' tk' o', Fr h₀ L h' m → h'.get? fr = some o' → Keep s.heap [fr] h' →
      o'.IsDictOf (strKind PR w) (without kf x) → FlatPairs PyData.str (without kf x) (delD (.str x) Df) → Q (.bool true) { s with heap := h', toks := tk' })
   : wpAny (model PR w) (ktrTop dp un gd cn cs L a ccd cl outer) (call (.ref 102) [.ref e, .str x tx]) Q E s := by
  subst hlk
  walk_at "M enter"
  intro g h₁ FG F' N' B' X' T' HD
  have st9 : s.heap.StaysIn h₁ := stays_of HD F' N'
  have sL9 : s.heap.get? s.heap.objs.size = none := Heap.get?_none_of_le (Nat.le_refl _)
  try dsimp only
  try k_fold
  k_steps
  all_goals ((rename News g _ _ _ => n9); (rename Fr g _ _ _ => f9); exact k _ _ _ (by k_asm) (n9 _ (.tail _ (.tail _ (.tail _ (.head _))))).1 (keep_of HD f9 n9 _ (by simp) rfl) (by assumption) (by assumption))
set_option maxRecDepth 100000 in
set_option maxHeartbeats 8000000 in
theorem remove_done1
   (B : Below A₀ base outer h₀) (F : Fr h₀ L s.heap m) (X : (hd.heap_39 w.params).In h₀) (T : Top VW LO mean mg mb h₀) (hk : cs.kind = .function) (hdp : dp ≤ 390) (hun : un ≤ 900)
   (N : News h₀ L s.heap [(e, instObj 127 ed), (ed, envD eD num par fr lk ls), (ls, ol), (fr, of)])
   (hof : of.IsDictOf (strKind PR w) kf) (hff : FlatPairs PyData.str kf Df) (hol : ol.IsDictOf (strKind PR w) kl) (hfl : FlatPairs PyData.str kl Dl)
   (lof : (fr == sysModules) = false) (lol : (ls == sysModules) = false)
   (d1 : @Ne Nat e ed) (d2 : @Ne Nat e ls) (d3 : @Ne Nat e fr) (d4 : @Ne Nat ed ls) (d5 : @Ne Nat ed fr) (d6 : @Ne Nat ls fr)
   (hlen : Df.length ≤ sizeLine) (hlen' : Dl.length ≤ sizeLine) (hxl : x.length ≤ 100)
   (hf : (Spec.lookup (.str x) Df).isSome = true) (hl : (Spec.lookup (.str x) Dl).isSome = true) (hlk : lk = false)
   (k : ∀ h' tk' o' o2, Fr h₀ L h' m → h'.get? fr = some o' → h'.get? ls = some o2 → Keep s.heap [fr, ls] h' →
      o'.IsDictOf (strKind PR w) (without kf x) → FlatPairs PyData.str (without kf x) (delD (.str x) Df) →
      o2.IsDictOf (strKind PR w) (without kl x) → FlatPairs PyData.str (without kl x) (delD (.str x) Dl) → Q (.bool true) { s with heap := h', toks := tk' })
   : wpAny (model PR w) (ktrTop dp un gd cn cs L a ccd cl outer) (call (.ref 102) [.ref e, .str x tx]) Q E s := by
  subst hlk
  walk_at "M enter"
  intro g h₁ FG F' N' B' X' T' HD
  have st9 : s.heap.StaysIn h₁ := stays_of HD F' N'
  have sL9 : s.heap.get? s.heap.objs.size = none := Heap.get?_none_of_le (Nat.le_refl _)
  try dsimp only
  try k_fold
  k_steps
  all_goals ((rename News g _ _ _ => n9); (rename Fr g _ _ _ => f9); exact k _ _ _ _ (by k_asm) (n9 _ (.tail _ (.tail _ (.tail _ (.head _))))).1 (n9 _ (.tail _ (.tail _ (.head _)))).1 (keep_of HD f9 n9 _ (by simp) rfl) (by assumption) (by assumption) (by assumption) (by assumption))
end
section
variable {w : World} {mean : ExcName → Option Value} {mg mb : Str → Option Value} {dp un : Nat} {gd : Option (List Code)} {cn : Str} {cs : Scope} {a : Addr} {ccd : Value} {cl : List (Str × Addr)} {outer : List Env} {A₀ : Around} {base h₀ : Heap} {L : Addr} {m : Str → Option Value} {s : Shared} {Q E : Value → Shared → Prop}
  {P : EP} {x : Str} {tx : Tok}
theorem remove_spec
   (B : Below A₀ base outer h₀) (F : Fr h₀ L s.heap m) (X : (hd.heap_39 w.params).In h₀) (T : Top VW LO mean mg mb h₀) (hk : cs.kind = .function) (hdp : dp ≤ 390) (hun : un ≤ 900)
   (S : EnvSt w P s.heap) (O : Off h₀ L P.foot) (hsz : P.k ≤ 10000) (hxl : x.length ≤ 100)
   (no : ∀ h' tk', (takeR P.E P.cl x).1 = none → Fr h₀ L h' m → Keep s.heap [] h' → Q (.bool false) { s with heap := h', toks := tk' })
   (ok : ∀ h' tk', (takeR P.E P.cl x).1 = some none → Fr h₀ L h' m → EnvSt w { P with E := (takeR P.E P.cl x).2 } h' → Keep s.heap [P.f, P.l] h' → Q (.bool true) { s with heap := h', toks := tk' })
   (bad : ∀ msg e dx h' tk', (takeR P.E P.cl x).1 = some (some msg) → Refused s.heap (envX cn cs L a ccd cl :: outer) e dx msg h' → E (.ref e) { s with heap := h', toks := tk' }) :
   wpAny (model PR w) (ktrTop dp un gd cn cs L a ccd cl outer) (call (.ref 102) [.ref P.e, .str x tx]) Q E s := by
  refine S.use fun eD of ol kf kl Dl hd hof hof' hff hol hol' hfl lr hDl => ?_
  obtain ⟨d1, d2, d3, d4, d5, d6⟩ := apart6 S.apart
  have N := news4 O S.inst hd hol hof
  have hlen : (frmD P.E).length ≤ sizeLine := by rw [frmD_length]; have := S.size; have := sizeLine_eq; omega
  have hlen' : Dl.length ≤ sizeLine := by have := sizeLine_eq; omega
  have lx := lr x
  have lf := frmD_lookup x P.E
  unfold takeR at ok bad no
  cases q : look x P.E with
  | none =>
    rw [q] at lf no
    exact remove_no B F X T hk hdp hun N hof' hff hol' hfl S.lowf S.lowl d1 d2 d3 d4 d5 d6 hlen hlen' hxl (by rw [lf]; rfl) (fun h' tk' F' K => no h' tk' rfl F' K)
  | some p =>
    rw [q] at lf ok bad
    cases c : P.cl with
    | true =>
      rw [c] at bad hd N
      exact remove_closed B F X T hk hdp hun N hof' hff hol' hfl S.lowf S.lowl d1 d2 d3 d4 d5 d6 hlen hlen' hxl (by rw [lf]; rfl) rfl (fun e dx h' tk R => bad delMsg e dx h' tk rfl R)
    | false =>
      rw [c] at ok hd N
      have hdel : (delE x P.E).length ≤ P.k := Nat.le_trans (delE_length x P.E) S.size
      have nf : ∀ {A : List Addr} {h' : Heap}, Keep s.heap A h' → ∀ b, b ∉ A → ∀ o, s.heap.get? b = some o → h'.get? b = some o := fun K b nb o e => K.get b o e nb
      cases z : Spec.lookup (.str x) Dl with
      | none =>
        refine remove_done0 B F X T hk hdp hun N hof' hff hol' hfl S.lowf S.lowl d1 d2 d3 d4 d5 d6 hlen hlen' hxl (by rw [lf]; rfl) (by rw [z]; rfl) rfl fun h' tk' o' F' ho' K hd' hf' => ?_
        have K2 : Keep s.heap [P.f, P.l] h' := K.mono fun b hb => by simp only [List.mem_singleton] at hb; subst hb; exact .head _
        refine ok h' tk' rfl F' ?_ K2
        exact ⟨nf K _ (by simpa using d3) _ S.inst, ⟨eD, nf K _ (by simpa using d5) _ hd⟩, ⟨o', _, ho', hd', by show FlatPairs _ _ (frmD (delE x P.E)); rw [frmD_del]; exact hf'⟩,
          ⟨ol, kl, Dl, nf K _ (by simpa using d6) _ hol, hol', hfl, lr.del' x z, hDl⟩, delE_nodup S.names, hdel, S.lowf, S.lowl, S.apart⟩
      | some dv =>
        refine remove_done1 B F X T hk hdp hun N hof' hff hol' hfl S.lowf S.lowl d1 d2 d3 d4 d5 d6 hlen hlen' hxl (by rw [lf]; rfl) (by rw [z]; rfl) rfl fun h' tk' o' o2 F' ho' ho2 K hd' hf' hd2 hf2 => ?_
        refine ok h' tk' rfl F' ?_ K
        exact ⟨nf K _ (by simpa using ⟨d3, d2⟩) _ S.inst, ⟨eD, nf K _ (by simpa using ⟨d5, d4⟩) _ hd⟩, ⟨o', _, ho', hd', by show FlatPairs _ _ (frmD (delE x P.E)); rw [frmD_del]; exact hf'⟩,
          ⟨o2, _, _, ho2, hd2, hf2, lr.del x, Nat.le_trans (delD_length _ _) hDl⟩, delE_nodup S.names, hdel, S.lowf, S.lowl, S.apart⟩
end
end
local macro_rules | `(tactic| k_handed) => `(tactic| k_extra "m k_handed")
section
open PySem PySem.W PySem.Calls PyProof.Rows PyProof.V PySem.W.X
set_option linter.unusedVariables false
noncomputable def has (x : Str) (E : List Ent) : Bool := (look x E).isSome
noncomputable def holdR (P : Nat → EP) (i : Nat) (x : Str) : Option Nat :=
  if 2 < i && has x (P 2).E then some 2 else if 1 < i && has x (P 1).E then some 1 else if has x (P 0).E then none else some 1
theorem nc {h₀ h : Heap} {L a : Addr} {o : Obj} {r : List (Addr × Obj)} (x : h.get? a = some o ∧ a ≠ L ∧ h₀.get? a = none) (N : News h₀ L h r) : News h₀ L h ((a, o) :: r) :=
  fun p hp => (List.mem_cons.mp hp).elim (fun e => e ▸ x) (N p)
theorem Keep.nil {h h' : Heap} (K : Keep h [] h') : h.StaysIn h' := fun b o e => K.get b o e (by simp)
noncomputable def WhlStop (prog : Program) (w : World) (A : Around) (E : Value → Shared → Prop) (env : Env) (test : PySem.Expr) (body orelse : List Stmt) (Q : Flow → Shared → Prop) (s : Shared) : Prop := WhlRest prog w A E env test body orelse Q 0 s
theorem whl_stop {prog : Program} {w : World} {A : Around} {E : Value → Shared → Prop} {env : Env} {test : PySem.Expr} {body orelse : List Stmt} {Q : Flow → Shared → Prop} {k : Nat} {s : Shared} (h : WhlStop prog w A E env test body orelse Q s) : WhlRest prog w A E env test body orelse Q k s := h
theorem whl_ind {prog : Program} {w : World} {A : Around} {E : Value → Shared → Prop} {env : Env} {test : PySem.Expr} {body orelse : List Stmt} {Q : Flow → Shared → Prop} {s : Shared} {g : Heap} {L : Addr} (J : Nat → Heap → (Str → Option Value) → Prop) (hE : PassesOwn (model prog w) A env E)
    (step : ∀ i h tk M, Fr g L h M → J i h M → (∀ j h' tk' M', j < i → Fr g L h' M' → J j h' M' → WhlStop prog w A E env test body orelse Q { s with heap := h', toks := tk' }) →
      wpAny (model prog w) A (isTrue test env (eval test env)) (fun b s₂ => WhlIf b (wpAny (model prog w) A (execs body env) (WhlPost prog w A E env test body orelse Q 0) E s₂) (wpAny (model prog w) A (execs orelse env) Q E s₂)) E { s with heap := h, toks := tk })
    (i : Nat) (h : Heap) (tk : Nat) (M : Str → Option Value) (F : Fr g L h M) (hJ : J i h M) : WhlStop prog w A E env test body orelse Q { s with heap := h, toks := tk } := by
  induction i using Nat.strongRecOn generalizing h tk M with
  | ind i ih => exact whl_turn (k := 0) hE (step i h tk M F hJ fun j h' tk' M' hj F' hJ' => ih j hj h' tk' M' F' hJ')
theorem map2 {M : Str → Option Value} {z z1 z2 : Str} {v v1 v2 : Value} (h1 : M z1 = some v1) (h2 : M z2 = some v2) : (fun y => if y = z then some v else M y) = fun y => if y = z then some v else if y = z1 then some v1 else if y = z2 then some v2 else M y := by
  funext y
  split
  · rfl
  · by_cases q1 : y = z1
    · simp only [if_pos q1]; rw [q1, h1]
    · simp only [if_neg q1]
      by_cases q2 : y = z2
      · simp only [if_pos q2]; rw [q2, h2]
      · simp only [if_neg q2]
theorem map3' {M : Str → Option Value} {z1 : Str} {v1 : Value} (h1 : M z1 = some v1) : M = fun y => if y = z1 then some v1 else M y := funext fun y => by
  by_cases q : y = z1
  · simp only [if_pos q]; rw [q, h1]
  · simp only [if_neg q]
theorem map3 {M : Str → Option Value} {z1 z2 z3 : Str} {v1 v2 v3 : Value} (h1 : M z1 = some v1) (h2 : M z2 = some v2) (h3 : M z3 = some v3) : M = fun y => if y = z1 then some v1 else if y = z2 then some v2 else if y = z3 then some v3 else M y := funext fun y => by
  by_cases q1 : y = z1
  · simp only [if_pos q1]; rw [q1, h1]
  · simp only [if_neg q1]
    by_cases q2 : y = z2
    · simp only [if_pos q2]; rw [q2, h2]
    · simp only [if_neg q2]
      by_cases q3 : y = z3
      · simp only [if_pos q3]; rw [q3, h3]
      · simp only [if_neg q3]
theorem map4 {M : Str → Option Value} {z z1 z2 z3 : Str} {v v1 v2 v3 : Value} (h1 : M z1 = some v1) (h2 : M z2 = some v2) (h3 : M z3 = some v3) : (fun y => if y = z then some v else M y) = fun y => if y = z then some v else if y = z1 then some v1 else if y = z2 then some v2 else if y = z3 then some v3 else M y := by
  have e := map3 h1 h2 h3
  funext y
  split
  · rfl
  · exact congrFun e y
theorem map2e {M : Str → Option Value} {z1 z2 : Str} {v1 v2 : Value} (h1 : M z1 = some v1) (h2 : M z2 = some v2) : M = fun y => if y = z1 then some v1 else if y = z2 then some v2 else M y := funext fun y => by
  by_cases q : y = z1
  · simp only [if_pos q]; rw [q, h1]
  · simp only [if_neg q]
    by_cases q : y = z2
    · simp only [if_pos q]; rw [q, h2]
    · simp only [if_neg q]
theorem env_at {w : World} {P : Nat → EP} {h : Heap} {A : List Addr} {led : List (Addr × Obj)} {g h' : Heap} {L' : Addr} {i : Nat} {C : Prop} (S : EnvSt w (P i) h) (hA : ∀ b ∈ (P i).foot, b ∈ A) (e : led = snap h A) (N : News g L' h' led)
    (k : ∀ (eD : ED) (o : Obj) (kf : List (Str × Value)), News g L' h' [((P i).e, instObj 127 (P i).ed), ((P i).ed, envD eD (P i).num (P i).par (P i).f (P i).cl (P i).l), ((P i).f, o)] → o.IsDictOf (strKind PR w) kf → FlatPairs PyData.str kf (frmD (P i).E) → C) : C := by
  obtain ⟨eD, c⟩ := S.idict
  obtain ⟨o, kf, a, b, f⟩ := S.frame
  have up : ∀ b o, b ∈ (P i).foot → h.get? b = some o → h'.get? b = some o ∧ b ≠ L' ∧ g.get? b = none := fun b o hb eb => N (b, o) (e ▸ mem_snap.mpr ⟨hA b hb, eb⟩)
  exact k eD o kf (nc (up _ _ (.head _) S.inst) (nc (up _ _ (.tail _ (.head _)) c) (nc (up _ _ (.tail _ (.tail _ (.head _))) a) News.nil))) b f
noncomputable def upV (P : Nat → EP) : Nat → Value
  | 0 => .none
  | j + 1 => .ref (P j).e
theorem upV_par {w : World} {P : Nat → EP} {h : Heap} (S : AllSt w P h) {j : Nat} (hj : j + 1 ≤ 4) : (P j).par = upV P j := by
  cases j with
  | zero => exact S.par0
  | succ j => exact S.par j (by omega)
theorem upV_handed {P : Nat → EP} (j : Nat) : handedIn (upV P j) = true := by cases j <;> rfl
theorem map4e {M : Str → Option Value} {z1 z2 z3 z4 : Str} {v1 v2 v3 v4 : Value} (h1 : M z1 = some v1) (h2 : M z2 = some v2) (h3 : M z3 = some v3) (h4 : M z4 = some v4) :
    M = fun y => if y = z1 then some v1 else if y = z2 then some v2 else if y = z3 then some v3 else if y = z4 then some v4 else M y := funext fun y => by
  by_cases q : y = z1
  · simp only [if_pos q]; rw [q, h1]
  · simp only [if_neg q]
    exact congrFun (map3 h2 h3 h4) y
theorem stays_of2 {h g h' : Heap} {L' : Addr} {m' : Str → Option Value} {led led' : List (Addr × Obj)} (HD : Hides h led g) (F' : Fr g L' h' m') (N' : News g L' h' led') (sub : ∀ p ∈ led, p ∈ led') : h.StaysIn h' := fun b o e => by
  by_cases q : ∃ p ∈ led, p.1 = b
  · obtain ⟨p, hp, rfl⟩ := q
    have := HD.at_ p hp
    rw [e] at this
    rw [Option.some.inj this]; exact (N' p (sub p hp)).1
  · exact F'.keep _ _ (HD.get b o e fun p hp z => q ⟨p, hp, z⟩)
noncomputable def upH (P : Nat → EP) (x : Str) : Nat → Option Nat
  | 0 => some 1
  | 1 => if has x (P 0).E then none else some 1
  | j + 2 => if has x (P (j + 1)).E then some (j + 1) else upH P x (j + 1)
theorem upH_start {P : Nat → EP} {x : Str} {i : Nat} (hi : 1 ≤ i) (hi' : i < 4) : holdR P i x = upH P x i := by
  rcases lt4p i hi' hi with rfl | rfl | rfl <;> simp [holdR, upH]
theorem upH_hit {P : Nat → EP} {x : Str} {j : Nat} (h : has x (P j).E = true) : upH P x (j + 1) = if j = 0 then none else some j := by
  cases j <;> simp [upH, h]
theorem upH_miss {P : Nat → EP} {x : Str} {j : Nat} (h : has x (P j).E = false) : upH P x (j + 1) = upH P x j := by
  cases j <;> simp [upH, h]
theorem said_UpG_1 : True := by
  k_with_none
  (k_with "m binaryOp Add str str" => (k_here; (with_reducible show wpAny _ _ (binaryOp Operator.Add (Value.str _ _) (Value.str _ _)) _ _ _); (refine' PyProof.Rows.add_str ?hh ?hsz; (case hsz => (have e1 := litA; have e2 := litB; have e3 := sz_line; (try rw [StrLaws.length_append]); omega)); intro t9 k9)))
  (k_with "m k_room" => first | k_dflt exact room_lt (k := 1) hdp rfl | k_dflt exact room_lt (k := 2) hdp rfl | k_dflt exact room_lt (k := 3) hdp rfl | k_dflt exact room_lt (k := 4) hdp rfl | k_dflt exact room_lt (k := 0) hdp rfl | decide | ((try simp only [depth_mark, depth_under_make, depth_under_kw, depth_in1, depth_deeper, depth_caller]); (try dsimp only [ktrTop]); (show (_ : Nat) < 1000); omega))
  (k_with "m k_units" => first | k_dflt exact unit_lt (k := 0) hun rfl | k_dflt exact unit_lt (k := 1) hun rfl | k_dflt exact unit_lt (k := 2) hun rfl | exact Nat.le_of_ble_eq_true rfl | ((try simp only [units_in1, units_deeper, Around.mark_units, units_caller]); (try dsimp only [ktrTop]); (show (_ : Nat) < 9900); omega))
  (k_with "m exec Raise some none" => (k_here; k_dflt (refine' raise_own ?hh ?_; (case hh => exact rfl))))
  (k_with "m call ref" => (k_here; (with_reducible show wpAny _ _ (call (Value.ref 44) [Value.str _ _]) _ _ _); (rename Fr _ _ _ _ => mF); k_dflt ((refine mk_K (by k_asm) mF (by k_asm) (by k_asm) (by (show (_ : Nat) ≤ 400; dsimp only; omega)) ?_); intro e dx t h' tk hh tm n F' N' st e1 e2 ne X'; (refine ⟨_, _, _, rfl, (N' _ (List.Mem.head _)).1, X', ?_⟩); (try k_unfold); (try dsimp only); (refine leave_refused (by k_asm) mF e1 e2 F' (N' _ (List.Mem.head _)).1 (N' _ (List.Mem.tail _ (List.Mem.head _))).1 (by exact stays_of2 (by assumption) mF (by k_asm) (by walk_at "M sub")) st (by assumption) ?_ (by rfl)); intro h9 R9; (try dsimp only))))
  (k_with "m setItem ref str" => (k_here; k_dflt (refine' setItem_K PyProof.V.same_str (strKind_is _ _ _ _) ?v ?F ?N ?U ?d ?f ?_ ?z; (case F => k_asm); (case N => k_asm); (case U => k_updF); (case d => k_asm); (case f => k_asm); (case z => assumption); (case v => k_flat)); intro h' o' F' N' hd' hf'; (try dsimp only at N'); (try k_sweep)))
  (k_with "m M enter" => (refine wpAny_call ?_; k_dflt (refine' enter ?k1 ?k2 ?k3 ?k4 ?k5 ?kA ?kF ?kK ?k6 ?k7 ?k8 ?k9 ?kB ?_ ?c2 ?c3 ?c4 ?c5; (case kA => exact rfl); (case kF => exact rfl); (case kK => first | assumption | exact rfl); (case k1 => k_asm); (case k2 => k_asm); (case k3 => k_asm); (case k4 => k_asm); (case k5 => k_asm); (case k6 => k_is); (case k7 => k_is); (case k8 => (show (_ : Nat) < 1000; dsimp only; omega)); (case k9 => exact BindsTo.of_eq rfl); (case c5 => decide); (case kB => exact locs rfl); (case c2 => exact rfl); (case c3 => exact rfl); (case c4 => exact rfl); k_whole)))
  (k_with "m delItem ref str" => (k_here; k_dflt (refine' kt_del_K PyProof.V.same_str (strKind_is _ _ _ _) ?F ?N ?U ?d ?f ?l ?_ ?z; (case F => k_asm); (case N => k_asm); (case U => k_updF); (case d => k_asm); (case f => k_asm); (case l => first | with_reducible assumption | rfl); (case z => assumption)); intro h' o' F' N' hd' hf'; try dsimp only at N'))
  (k_with "m M sub" => first | exact fun _ h => h | exact fun _ h => .tail _ h | exact fun _ h => .tail _ (.tail _ h) | exact fun _ h => .tail _ (.tail _ (.tail _ h)) | exact fun _ h => .tail _ (.tail _ (.tail _ (.tail _ h))) | exact fun _ h => .tail _ (.tail _ (.tail _ (.tail _ (.tail _ h)))) | exact fun _ h => .tail _ (.tail _ (.tail _ (.tail _ (.tail _ (.tail _ h))))))
  (k_with "m k_all" => with_reducible assumption)
  (k_with "m k_handed" => with_reducible assumption)
  (k_with "m exec While Compare" => (k_here; k_dflt (refine whl_start 0 ?_)))
  (k_with "m WhlRest" => refine whl_stop ?_)
  trivial
section
variable {w : World} {mean : ExcName → Option Value} {mg mb : Str → Option Value} {dp un : Nat} {gd : Option (List Code)} {cn : Str} {cs : Scope} {a : Addr} {ccd : Value} {cl : List (Str × Addr)} {outer : List Env} {A₀ : Around} {base h₀ : Heap} {L : Addr} {m : Str → Option Value} {s : Shared} {Q E : Value → Shared → Prop}
  {P : Nat → EP} {x : Str} {tx : Tok} {i : Nat}
set_option maxRecDepth 100000 in
set_option maxHeartbeats 8000000 in
theorem up_spec
   (B : Below A₀ base outer h₀) (F : Fr h₀ L s.heap m) (X : (hd.heap_39 w.params).In h₀) (T : Top VW LO mean mg mb h₀) (hk : cs.kind = .function) (hdp : dp ≤ 390) (hun : un ≤ 900)
   (S : AllSt w P s.heap) (O : Off h₀ L (feet P)) (hi : 1 ≤ i) (hi' : i < 4) (hxl : x.length ≤ 100)
   (ok : ∀ j h' tk', holdR P i x = some j → Fr h₀ L h' m → Keep s.heap [] h' → Q (.ref (P j).e) { s with heap := h', toks := tk' })
   (bad : ∀ e dx h' tk', holdR P i x = none → Refused s.heap (envX cn cs L a ccd cl :: outer) e dx (lockedMsg x) h' → E (.ref e) { s with heap := h', toks := tk' }) :
   wpAny (model PR w) (ktrTop dp un gd cn cs L a ccd cl outer) (call (.ref 88) [.ref (P i).e, .str x tx, .ref (P 1).e]) Q E s := by
  obtain ⟨led, hled⟩ : ∃ led, led = snap s.heap (feet P) := ⟨_, rfl⟩
  have N : News h₀ L s.heap led := hled ▸ news_snap O
  walk_at "M enter"
  intro g h₁ FG F' N' B' X' T' HD
  have sL9 : s.heap.get? s.heap.objs.size = none := Heap.get?_none_of_le (Nat.le_refl _)
  have mf : ∀ j, j < 4 → ∀ b ∈ (P j).foot, b ∈ feet P := fun j hj b hb => mem_feet.mpr ⟨j, hj, hb⟩
  refine env_at (S.st i hi') (mf i hi') hled N' fun eD o kf N3 ho hf => ?_
  refine env_at (S.st 1 (by omega)) (mf 1 (by omega)) hled N' fun eD1 o1 kf1 N31 ho1 hf1 => ?_
  rw [S.num i hi', upV_par S hi'] at N3
  rw [S.num 1 (by omega)] at N31
  have hph := upV_handed (P := P) i
  have N4 : News g s.heap.objs.size h₁ (_ :: _ :: _ :: _ :: _ :: _ :: led) := N3.append (N31.append N')
  clear N3 N31 N' N
  try dsimp only
  try k_fold
  k_steps
  rename Fr g _ _ _ => f0
  rename News g _ _ _ => n0
  refine whl_ind (fun j h M => M (Str.ofString "place") = some (upV P j) ∧ M (Str.ofString "name") = some (.str x tx) ∧ M (Str.ofString "top") = some (.ref (P 1).e) ∧ News g s.heap.objs.size h led ∧ j < 4 ∧ holdR P i x = upH P x j ∧ ∃ b, M (Str.ofString "passed") = some (.bool b) ∧ (b = true ↔ j ≤ 1))
    (by passes_own) ?_ i _ _ _ f0 ⟨rfl, rfl, rfl, fun p hp => n0 p (.tail _ (.tail _ (.tail _ (.tail _ (.tail _ (.tail _ hp)))))), hi', upH_start hi hi', _, rfl, ?_⟩
  · intro j h2 tk2 M F2 hJ ih
    refine hJ.2.2.2.2.2.2.elim fun b hbb => ?_
    rw [map4e hJ.1 hJ.2.1 hJ.2.2.1 hbb.1] at F2
    have hb := hbb.2
    have N2 := hJ.2.2.2.1
    have hj := hJ.2.2.2.2.1
    have hn := hJ.2.2.2.2.2.1
    clear hJ hbb f0 n0
    cases j with
    | zero =>
      dsimp only [upV] at F2
      k_steps
      rename Fr g _ _ _ => f9
      rename News g _ _ _ => n9
      exact ok 1 _ _ (by rw [hn]; rfl) (by k_asm) (Keep.of_stays (stays_of2 HD f9 n9 fun _ h => h))
    | succ j =>
      dsimp only [upV] at F2
      refine env_at (S.st j (by omega)) (mf j (by omega)) hled N2 fun eD o kf N3 ho hf => ?_
      refine env_at (S.st 1 (by omega)) (mf 1 (by omega)) hled N2 fun eD1 o1 kf1 N31 ho1 hf1 => ?_
      rw [S.num j (by omega), upV_par S (by omega)] at N3
      rw [S.num 1 (by omega)] at N31
      have hph := upV_handed (P := P) j
      have lo := (S.st j (by omega)).lowf
      have N4 : News g s.heap.objs.size h2 (_ :: _ :: _ :: _ :: _ :: _ :: led) := N3.append (N31.append N2)
      clear N3 N31 N2
      have lk : (Spec.lookup (.str x) (frmD (P j).E)).isSome = has x (P j).E := by rw [frmD_lookup, has]; cases look x (P j).E <;> rfl
      k_steps
      · rename Option.isSome _ = true => hs
        rename b = true => hbt
        rw [lk] at hs
        exact bad _ _ _ _ (by rw [hn, upH_hit hs, if_pos (by have := hb.mp hbt; omega)]) (by assumption)
      · rename Option.isSome _ = true => hs
        rename b = false => hbf
        rw [lk] at hs
        rename Fr g _ _ _ => f9
        rename News g _ _ _ => n9
        exact ok j _ _ (by rw [hn, upH_hit hs, if_neg (fun q => by rw [hb.mpr (by omega)] at hbf; cases hbf)]) (by k_asm) (Keep.of_stays (stays_of2 HD f9 n9 fun _ h => .tail _ (.tail _ (.tail _ (.tail _ (.tail _ (.tail _ h)))))))
      · rename Option.isSome _ = false => hs
        rw [lk] at hs
        rename Fr g _ _ _ => f9
        rename News g _ _ _ => n9
        exact ih j _ _ _ (Nat.lt_succ_self _) f9 ⟨rfl, rfl, rfl, fun p hp => n9 p (.tail _ (.tail _ (.tail _ (.tail _ (.tail _ (.tail _ hp)))))), by omega, by rw [hn, upH_miss hs], _, rfl, by simp; omega⟩
      · rename Option.isSome _ = false => hs
        rw [lk] at hs
        rename Fr g _ _ _ => f9
        rename News g _ _ _ => n9
        exact ih j _ _ _ (Nat.lt_succ_self _) f9 ⟨rfl, rfl, rfl, fun p hp => n9 p (.tail _ (.tail _ (.tail _ (.tail _ (.tail _ (.tail _ hp)))))), by omega, by rw [hn, upH_miss hs], _, rfl, by rw [hb]; omega⟩
  · rw [beq_iff_eq]; omega
end
end
section
open PySem PySem.W PySem.Calls PyProof.Rows PyProof.V PySem.W.X
set_option linter.unusedVariables false
theorem has_44 {w : World} : hasDictIn (hd.heap_39 w.params) 44 = true := by k_is
theorem msg_44 {w : World} : findIn (hd.heap_39 w.params) (.ref 44) (Str.ofString "message") = some none := by k_is
theorem lk_msg {name msg : Str} {hh : Int} {tm tx : Tok} {n : Nat} : lookIn name (dictOf [⟨hh, .str name tm, .str msg tx⟩] n) = some (some (.str msg tx)) := by
  rw [lookIn_dict]
  have h : (Value.str name tm).isStr name = true := by rw [isStr_of]; simp [Value.isStrOf]
  unfold getL
  simp only [List.find?, h]
theorem ng_none {K : Frag} : noGet K none = true := rfl
theorem inst_msg {h : Heap} {e dx : Addr} {vs : Array Value} {sl : Array (Option Value)} {od : Obj} (he : h.get? e = some ⟨.ref 44, some dx, .fields vs, sl⟩) (hdx : h.get? dx = some od) :
    InstAt h e ⟨.ref 44, some dx, .fields vs, sl⟩ 44 (some od) where
  at_ := he
  cls := rfl
  no := rfl
  dict := hdx
theorem msg_call {prog : Program} {w : World} {A : Around} {msg : Str} {tx tm : Tok} {s : Shared} {Q E : Value → Shared → Prop}
   {e dx : Addr} {vs : Array Value} {sl : Array (Option Value)} {hh : Int} {tm' : Tok} {n : Nat}
   (KX : (hd.heap_39 w.params).In s.heap) (he : s.heap.get? e = some ⟨.ref 44, some dx, .fields vs, sl⟩) (hdx : s.heap.get? dx = some (msgO hh tm' tx msg n)) (HQ : Q (.str msg tx) s)
   : wpAny (model prog w) A (call (.builtin "BaseException.__getattribute__") [.ref e, .str (Str.ofString "message") tm]) Q E s := by
  have I : InstAt s.heap e ⟨.ref 44, some dx, .fields vs, sl⟩ 44 (some (msgO hh tm' tx msg n)) := inst_msg he hdx
  have L0 := I.type (M := model prog w)
  have L1 := looks_find (M := model prog w) (name := Str.ofString "message") KX I (findObj_own has_44 msg_44 ng_none lk_msg)
  have sub : Looks (model prog w) s.heap (isInstance (.ref e) (.type "BaseException")) true := L0.andThen (looks_subIn KX sub_base)
  have hk : builtinKind "BaseException.__getattribute__" = some .slot := by decide +kernel
  have hs : splitId "BaseException.__getattribute__" = some ("BaseException", "__getattribute__") := by decide +kernel
  refine wpAny_call (codeAny_call_builtin PySem.F.attrBase_Exception.ga.plain PySem.F.entry_bexc_ga ?_)
  refine @check_slot (model prog w) _ _ _ "BaseException.__getattribute__" "BaseException" "__getattribute__" (.ref e) [.str _ _] [] _ hk hs sub (PySem.F.args_bexc_ga _ _) ?_
  unfold Builtin.«object.__getattribute__»
  refine wpAny_bind (wpAny_pure (wpAny_bind (wpAny_pure (wpAny_bind ?_))))
  refine L0.here (wpAny_bind (L1.here ?_))
  exact wpAny_pure HQ
theorem gattr_bind (self : Value) : bindSpecial (.builtin "BaseException.__getattribute__") self = pure (.builtin "BaseException.__getattribute__", [self]) :=
  (Slot.of (T := "BaseException") (name := "__getattribute__") (owner := "BaseException") (n := "__getattribute__") (by rw [typeLookup_type, builtinLookup_eq_fast]; kernel_rfl) (by decide +kernel) (by decide +kernel) (by decide +kernel)
    (.inl (by decide +kernel)) (by rw [isSubtype_type]; kernel_rfl)).bind self
theorem find_ga {w : World} : findIn (hd.heap_39 w.params) (.ref 44) "__getattribute__" = some (some (.builtin "BaseException.__getattribute__")) := by k_is
theorem find_gx {w : World} : findIn (hd.heap_39 w.params) (.ref 44) "__getattr__" = some none := by k_is
theorem get_message {w : World} {msg : Str} {tx : Tok} {s : Shared} {Q E : Value → Shared → Prop} {hdl : Option Value} {d u : Nat} {expr : Bool}
   {gd : Option (List Code)} {fr : Option (List Env)} {e dx : Addr} {vs : Array Value} {sl : Array (Option Value)} {hh : Int} {tm' : Tok} {n : Nat}
   (KX : (hd.heap_39 w.params).In s.heap) (he : s.heap.get? e = some ⟨.ref 44, some dx, .fields vs, sl⟩) (hdx : s.heap.get? dx = some (msgO hh tm' tx msg n)) (hr : d ≤ 400) (hu : u ≤ 1000)
   (HQ : ∀ tk, Q (.str msg tx) { s with toks := tk })
   : wpAny (model PR w) { handled := hdl, depth := d, frames := fr, guards := gd, units := u } (getAttr (.ref e) (Str.ofString "message") expr) Q E s := by
  obtain ⟨hp, gs, dr, tk0, os⟩ := s
  dsimp only at KX he hdx HQ
  have hty : ∀ {A : Around} {s' : Shared} {Q' : Value → Shared → Prop} {E' : Value → Shared → Prop}, s'.heap = hp → Q' (.ref 44) s' → wpAny (model PR w) A (typeOf (.ref e)) Q' E' s' := by
    intro A s' Q' E' hs hq
    unfold typeOf
    exact wpAny_bind (wpAny_loadPart (by rw [hs]; exact he) (wpAny_pure hq))
  unfold getAttr
  refine wpAny_bind (wpAny_mkText ?_)
  unfold getAttrBy
  refine wpAny_holding (wpAny_bind (hty rfl (wpAny_bind ((looks_findIn KX find_ga).at ?_))))
  dsimp only
  rw [if_neg (by decide)]
  unfold getAttrByItsOwn hookBefore
  rw [if_pos (show onTheHeap (Value.ref 44) = true from rfl)]
  refine wpAny_bind ((looks_findIn KX find_gx).at ?_)
  refine wpAny_bind (wpAny_attempt (wpAny_holding ?_))
  unfold callGetattribute
  rw [if_neg (by simp [onTheHeap])]
  unfold boundAndCalled
  rw [gattr_bind]
  refine wpAny_bind (wpAny_pure ?_)
  exact msg_call KX he hdx (wpAny_pure (HQ _))
end
section
open PySem PySem.W PySem.Calls PyProof.Rows PyProof.V PySem.W.X
set_option linter.unusedVariables false
theorem said_Asg_1 : True := by
  k_with_none
  (k_with "m binaryOp Add str str" => (k_here; (with_reducible show wpAny _ _ (binaryOp Operator.Add (Value.str _ _) (Value.str _ _)) _ _ _); (refine' PyProof.Rows.add_str ?hh ?hsz; (case hsz => (have e1 := litA; have e2 := litB; have e3 := sz_line; (try rw [StrLaws.length_append]); omega)); intro t9 k9)))
  (k_with "m k_room" => first | k_dflt exact room_lt (k := 1) hdp rfl | k_dflt exact room_lt (k := 2) hdp rfl | k_dflt exact room_lt (k := 3) hdp rfl | k_dflt exact room_lt (k := 4) hdp rfl | k_dflt exact room_lt (k := 0) hdp rfl | decide | ((try simp only [depth_mark, depth_under_make, depth_under_kw, depth_in1, depth_deeper, depth_caller]); (try dsimp only [ktrTop]); (show (_ : Nat) < 1000); omega))
  (k_with "m k_units" => first | k_dflt exact unit_lt (k := 0) hun rfl | k_dflt exact unit_lt (k := 1) hun rfl | k_dflt exact unit_lt (k := 2) hun rfl | exact Nat.le_of_ble_eq_true rfl | ((try simp only [units_in1, units_deeper, Around.mark_units, units_caller]); (try dsimp only [ktrTop]); (show (_ : Nat) < 9900); omega))
  (k_with "m exec Raise some none" => (k_here; k_dflt (refine' raise_own ?hh ?_; (case hh => exact rfl))))
  (k_with "m call ref" => (k_here; (with_reducible show wpAny _ _ (call (Value.ref 44) [Value.str _ _]) _ _ _); (rename Fr _ _ _ _ => mF); k_dflt ((refine mk_K (by k_asm) mF (by k_asm) (by k_asm) (by (show (_ : Nat) ≤ 400; dsimp only; omega)) ?_); intro e dx t h' tk hh tm n F' N' st e1 e2 ne X'; (refine ⟨_, _, _, rfl, (N' _ (List.Mem.head _)).1, X', ?_⟩); (try k_unfold); (try dsimp only); (refine leave_refused (by k_asm) mF e1 e2 F' (N' _ (List.Mem.head _)).1 (N' _ (List.Mem.tail _ (List.Mem.head _))).1 (by first | assumption | exact stays_of (by assumption) mF (by k_asm)) st (by assumption) ?_ (by rfl)); intro h9 R9; (try dsimp only))))
  (k_with "m setItem ref str" => (k_here; k_dflt (refine' setItem_K PyProof.V.same_str (strKind_is _ _ _ _) ?v ?F ?N ?U ?d ?f ?_ ?z; (case F => k_asm); (case N => k_asm); (case U => k_updF); (case d => k_asm); (case f => k_asm); (case z => assumption); (case v => k_flat)); intro h' o' F' N' hd' hf'; (try dsimp only at N'); (try k_sweep)))
  (k_with "m M enter" => (refine wpAny_call ?_; k_dflt (refine' enter ?k1 ?k2 ?k3 ?k4 ?k5 ?kA ?kF ?kK ?k6 ?k7 ?k8 ?k9 ?kB ?_ ?c2 ?c3 ?c4 ?c5; (case kA => exact rfl); (case kF => exact rfl); (case kK => first | assumption | exact rfl); (case k1 => k_asm); (case k2 => k_asm); (case k3 => k_asm); (case k4 => k_asm); (case k5 => k_asm); (case k6 => k_is); (case k7 => k_is); (case k8 => (show (_ : Nat) < 1000; dsimp only; omega)); (case k9 => exact BindsTo.of_eq rfl); (case c5 => decide); (case kB => exact locs rfl); (case c2 => exact rfl); (case c3 => exact rfl); (case c4 => exact rfl); k_whole)))
  (k_with "m delItem ref str" => (k_here; k_dflt (refine' kt_del_K PyProof.V.same_str (strKind_is _ _ _ _) ?F ?N ?U ?d ?f ?l ?_ ?z; (case F => k_asm); (case N => k_asm); (case U => k_updF); (case d => k_asm); (case f => k_asm); (case l => first | with_reducible assumption | rfl); (case z => assumption)); intro h' o' F' N' hd' hf'; try dsimp only at N'))
  (k_with "m M room" => first | k_dflt exact room_le (k := 1) hdp rfl | k_dflt exact room_le (k := 0) hun rfl | k_dflt exact room_le (k := 1) hun rfl | k_dflt exact room_le (k := 2) hdp rfl | k_dflt exact room_le (k := 0) hdp rfl | ((try simp only [depth_mark, depth_under_make, depth_under_kw, depth_in1, depth_deeper, depth_caller, units_in1, units_deeper, Around.mark_units, units_caller]); (try dsimp only [ktrTop]); omega))
  trivial
theorem holdR_lt {P : Nat → EP} {i j : Nat} {x : Str} (h : holdR P i x = some j) : 1 ≤ j ∧ j < 4 := by
  unfold holdR at h
  split at h
  · cases h; omega
  split at h
  · cases h; omega
  split at h
  · cases h
  · cases h; omega
theorem stays_trans {a b c : Heap} (x : a.StaysIn b) (y : b.StaysIn c) : a.StaysIn c := fun q o e => y q o (x q o e)
theorem keep_after {a b c : Heap} {A : List Addr} (x : a.StaysIn b) (y : Keep b A c) : Keep a A c := (Keep.of_stays x).trans y
noncomputable def asgMsg (P : Nat → EP) (i : Nat) (x : Str) (v : Int) : Option Str :=
  match holdR P i x with
  | none => some (lockedMsg x)
  | some j => (bindR (P j).E (P j).cl x v).1
theorem asgMsg_some {P : Nat → EP} {i j : Nat} {x : Str} {v : Int} {msg : Str} (h : holdR P i x = some j) (m : (bindR (P j).E (P j).cl x v).1 = some msg) : asgMsg P i x v = some msg := by
  unfold asgMsg; rw [h]; exact m
theorem asgMsg_none {P : Nat → EP} {i : Nat} {x : Str} {v : Int} (h : holdR P i x = none) : asgMsg P i x v = some (lockedMsg x) := by
  unfold asgMsg; rw [h]
theorem said_Asg_2 : True := by
  (k_with "m call ref" => (k_here; (with_reducible show wpAny _ _ (call (Value.ref 88) [_, _, _]) _ _ _); (rename Fr _ _ _ _ => mF); (rename AllSt _ _ _ => mS); (rename Off _ _ _ => mO); (rename Heap.StaysIn _ _ => mT); k_dflt (refine' up_spec ?k1 ?k2 ?k3 ?k4 ?hk ?hdp ?hun ?k5 ?k6 ?k7 ?k8 ?k9 ?_ ?_; (case k1 => k_asm); (case k2 => exact mF); (case k3 => k_asm); (case k4 => k_asm); (case k5 => exact mS); (case k6 => exact mO); (case k7 => assumption); (case k8 => assumption); (case k9 => assumption); (case hk => exact rfl); (case hdp => walk_at "M room"); (case hun => walk_at "M room"); (all_goals first | (intro j h' tk' hJ F' K'; (have S' := AllSt.keep mS fun b _ o e => Keep.nil K' b o e); (have T' := stays_trans mT (Keep.nil K')); (have N' := news_snap (h := h') mO); clear mF; (try k_fold)) | (intro e dx h' tk' hN R'; (try k_unfold); (try dsimp only); (refine leave_onRefused (by k_asm) R' mT (by assumption) ?_); intro h9 R9; (try dsimp only))))))
  (k_with "m call ref" => (k_here; (with_reducible show wpAny _ _ (call (Value.ref 81) [_, _, _]) _ _ _); (rename Fr _ _ _ _ => mF); (rename AllSt _ _ _ => mS); (rename Off _ _ _ => mO); (rename Heap.StaysIn _ _ => mT); (rename holdR _ _ _ = some _ => mJ); (rename ∀ j, j < 4 → _ ≤ 10000 => mZ); k_dflt (refine' define_spec ?k1 ?k2 ?k3 ?k4 ?hk ?hdp ?hun ?k5 ?k6 ?k7 ?k8 ?_ ?_; (case k1 => k_asm); (case k2 => exact mF); (case k3 => k_asm); (case k4 => k_asm); (case k5 => exact AllSt.st mS _ (holdR_lt mJ).2); (case k6 => exact Off.mono mO fun b hb => mem_feet.mpr ⟨_, (holdR_lt mJ).2, hb⟩); (case k7 => exact mZ _ (holdR_lt mJ).2); (case k8 => assumption); (case hk => exact rfl); (case hdp => walk_at "M room"); (case hun => walk_at "M room"); (all_goals first | (intro h' tk' hM F' S' K'; (have N' := news_snap (h := h') mO); clear mF; (try k_fold)) | (intro msg e dx h' tk' hN R'; (try k_unfold); (try dsimp only); (refine leave_onRefused (by k_asm) R' mT (by assumption) ?_); intro h9 R9; (try dsimp only))))))
  trivial
section
variable {w : World} {mean : ExcName → Option Value} {mg mb : Str → Option Value} {dp un : Nat} {gd : Option (List Code)} {cn : Str} {cs : Scope} {a : Addr} {ccd : Value} {cl : List (Str × Addr)} {outer : List Env} {A₀ : Around} {base h₀ : Heap} {L : Addr} {m : Str → Option Value} {s : Shared} {Q E : Value → Shared → Prop}
  {P : Nat → EP} {x : Str} {tx : Tok} {i : Nat} {v : Int} {tv : Tok}
set_option maxRecDepth 100000 in
set_option maxHeartbeats 8000000 in
theorem asg_spec
   (B : Below A₀ base outer h₀) (F : Fr h₀ L s.heap m) (X : (hd.heap_39 w.params).In h₀) (T : Top VW LO mean mg mb h₀) (hk : cs.kind = .function) (hdp : dp ≤ 389) (hun : un ≤ 890)
   (S : AllSt w P s.heap) (O : Off h₀ L (feet P)) (hi : 1 ≤ i) (hi' : i < 4) (hxl : x.length ≤ 100) (hsz : ∀ j < 4, (P j).k ≤ 10000)
   (ok : ∀ j h' tk', holdR P i x = some j → (bindR (P j).E (P j).cl x v).1 = none → Fr h₀ L h' m → EnvSt w { P j with E := (bindR (P j).E (P j).cl x v).2, k := (P j).k + 1 } h' → Keep s.heap [(P j).f] h' → Q .none { s with heap := h', toks := tk' })
   (bad : ∀ msg e dx h' tk', asgMsg P i x v = some msg → Refused s.heap (envX cn cs L a ccd cl :: outer) e dx msg h' → E (.ref e) { s with heap := h', toks := tk' }) :
   wpAny (model PR w) (ktrTop dp un gd cn cs L a ccd cl outer) (call (.ref 95) [.ref (P i).e, .str x tx, .int v tv, .ref (P 1).e]) Q E s := by
  have N : News h₀ L s.heap (snap s.heap (feet P)) := news_snap O
  walk_at "M enter"
  intro g h₁ FG F' N' B' X' T' HD
  have st9 : s.heap.StaysIn h₁ := stays_of HD F' N'
  have sL9 : s.heap.get? s.heap.objs.size = none := Heap.get?_none_of_le (Nat.le_refl _)
  have S9 : AllSt w P h₁ := S.keep fun b _ o e => st9 b o e
  have O9 : Off g s.heap.objs.size (feet P) := Off.of_news N' S.there
  clear S O
  try dsimp only
  try k_fold
  k_steps
  all_goals first
    | ((rename Heap.StaysIn _ _ => mT); exact ok _ _ _ (by assumption) (by assumption) (by k_asm) (by assumption) (keep_after mT (by assumption)))
    | exact bad _ _ _ _ _ (asgMsg_some (by assumption) (by assumption)) (by assumption)
    | exact bad _ _ _ _ _ (asgMsg_none (by assumption)) (by assumption)
end
end
section
open PySem PySem.W PySem.Calls PyProof.Rows PyProof.V PySem.W.X
set_option linter.unusedVariables false
theorem kts_44 {w : World} : ktsIn (hd.heap_39 w.params) 44 "Exception" = true := by kernel_rfl
theorem ns_refusal {w : World} : nsIn (hd.heap_39 w.params) mainGlobals (Str.ofString "Refusal") = some (some (.ref 44)) := by k_is
section
variable {w : World} {A₀ : Around} {E : Value → Shared → Prop} {s' : Shared} {base g hc : Heap} {outer : List Env} {L a e dx : Addr} {m : Str → Option Value} {name : Str} {scope : Scope} {cd : Value}
  {nm : Str} {b₀ : Stmt} {suite : List Stmt} {pos np : Pos} {rest : List ExceptHandler} {Q : Flow → Shared → Prop} {A : List Addr}
  {mean : ExcName → Option Value} {mg mb : Str → Option Value} {msg : Str}
theorem ex3 {α : Type} {p q r : α → Prop} {C : Prop} (h : ∃ x, p x ∧ q x ∧ r x) (k : ∀ x, p x → q x → r x → C) : C := h.elim fun x hx => k x hx.1 hx.2.1 hx.2.2
theorem Refused.use {h h' : Heap} {l : List Env} {C : Prop} (R : Refused h l e dx msg h')
    (k : ∀ B hh tm tx n, (∀ b o, h.get? b = some o → b ∉ l.filterMap (·.frame) → B.get? b = some o) → Held B l e dx .none h' → B.get? dx = some (msgO hh tm tx msg n) → h.UpToSlots h' → C) : C := by
  obtain ⟨B, hh, tm, tx, n, a, b, c, d⟩ := R
  exact k B hh tm tx n a b c d
theorem held_obj {B h : Heap} {l : List Env} {fl : Value} (H : Held B l e dx fl h) : ∃ vs sl, h.get? e = some ⟨.ref 44, some dx, .fields vs, sl⟩ := by
  obtain ⟨_, _, _, vs, _, _, _, sl, he, _⟩ := H
  exact ⟨vs, sl, he⟩
theorem held_top {B h : Heap} {l : List Env} {en : Env} {fl : Value} (H : Held B (en :: l) e dx fl h) : B.StaysIn h ∧ ∃ L' o, en.frame = some L' ∧ B.get? L' = none ∧ h.get? L' = some o ∧ ∀ vs, o.data ≠ .fields vs := by
  obtain ⟨st, _, ⟨_, ⟨L', o, hf, hn, ho, hnf⟩, _⟩, _⟩ := H
  exact ⟨st, L', o, hf, hn, ho, hnf⟩
theorem match_44 {M : Model} {A : Around} {E : Value → Shared → Prop} {h : Heap} {g : Array GenState} {d : Drawn} {t : Nat} {os : OsState} {vs : Array Value} {sl : Array (Option Value)} {Q : Bool → Shared → Prop}
    (X : (hd.heap_39 w.params).In h) (he : h.get? e = some ⟨.ref 44, some dx, .fields vs, sl⟩) (hq : Q true ⟨h, g, d, t, os⟩) : wpAny M A (excMatches (.ref e) (.ref 44)) Q E ⟨h, g, d, t, os⟩ := by
  obtain ⟨nm', qn, N', bs, bm, hdct, sn, sub, ab, col, dd, k0, k1, k2, k3, k5, nid, hC, hbb, _⟩ := kts_cls X kts_44
  exact wpAny_excMatches_sub_self hC he rfl hbb hq
theorem catch_own (Kb : Below A₀ base outer g) (F : Fr g L hc m) (XB : (hd.heap_39 w.params).In base) (TB : Top VW LO mean mg mb base) (R : Refused hc (envOf name scope L a cd :: outer) e dx msg s'.heap)
    (O : Off g L A)
    (k : ∀ g' h' tk' vs sl hh tm tx n, KtsTurn (outer.filterMap (·.frame)) g g' → Fr g' L h' (fun y => if y = nm then some (.ref e) else m y) → News g' L h' (snap hc A) → Below A₀ base outer g' → (hd.heap_39 w.params).In g' → Top VW LO mean mg mb g' →
      (hd.heap_39 w.params).In h' → h'.get? e = some ⟨.ref 44, some dx, .fields vs, sl⟩ → h'.get? dx = some (msgO hh tm tx msg n) →
      wpAny (model PR w) ((A₀.deeper (envOf name scope L a cd)).mark (some (.ref e))) (execs (b₀ :: suite) (envOf name scope L a cd))
        (fun f s₄ => wpAny (model PR w) (A₀.deeper (envOf name scope L a cd)) (do bindName (envOf name scope L a cd) nm .none; unbindBehindTheSuite (envOf name scope L a cd) nm pos) (fun _ s₅ => Q f s₅) E s₄)
        (AsSuiteRaised (model PR w) ((A₀.deeper (envOf name scope L a cd)).mark (some (.ref e))) (envOf name scope L a cd) nm pos (notedBy (model PR w) ((A₀.deeper (envOf name scope L a cd)).mark (some (.ref e))) (envOf name scope L a cd) (cameBackBy (model PR w) (A₀.deeper (envOf name scope L a cd)) (envOf name scope L a cd) E)))
        { s' with heap := h', toks := tk' })
    (hk : scope.kind = .function := by rfl) (hlo : (envOf name scope L a cd).kindOf nm = some .local := by rfl) (hx : (envOf name scope L a cd).kindOf (Str.ofString "Refusal") = some .globalImplicit := by rfl) :
    wpAny (model PR w) (A₀.deeper (envOf name scope L a cd)) (noteFrame (.ref e) (envOf name scope L a cd))
      (fun _ s₂ => wpAny (model PR w) (A₀.deeper (envOf name scope L a cd)) (setFlight (.ref e) none) (fun _ s₃ =>
        wpAny (model PR w) (A₀.deeper (envOf name scope L a cd)) (handleBy (.ref e) (envOf name scope L a cd) (.ExceptHandler (some (.Name (Str.ofString "Refusal") np)) (some nm) (b₀ :: suite) pos :: rest)) Q E s₃) E s₂) E s' := by
  refine R.use fun B hh tm tx n hB H hd u => ?_
  refine held_next (Around.frames_deeper Kb.stack) rfl H fun h₄ H₄ u₄ => ?_
  refine held_land (s := { s' with heap := h₄ }) H₄ fun h₅ H₅ u₅ => ?_
  have u5 := (u.trans u₄).trans u₅
  refine ex3 (kts_ground Kb F hB H₅.1 u5) fun g₅ T₅ F₅ K₅ => ?_
  have X₅ := XB.keeps K₅.stays
  have P₅ := topRead_of (TB.keeps K₅.stays)
  refine wpAny_handleBy_cons (codeAny_handlers_test (name_K F₅ X₅ P₅ ns_refusal ?_ hk hx)) (by intro q; cases q)
  refine Exists.elim (held_obj H₅) fun vs₅ he₅ => Exists.elim he₅ fun sl₅ he₅ => ?_
  refine match_44 (X₅.keeps F₅.keep) he₅ (codeAny_handlers_suite_as ?_)
  refine held_land H₅ fun h₆ H₆ u₆ => ?_
  have u6 := u5.trans u₆
  refine ex3 (kts_ground Kb F hB H₆.1 u6) fun g₆ T₆ F₆ K₆ => ?_
  refine Exists.elim (held_obj H₆) fun vs he₆ => Exists.elim he₆ fun sl he₆ => ?_
  have st₆ := H₆.1
  have hd₆ := st₆ _ _ hd
  have nL : ∀ b, b ∈ A → b ∉ (envOf name scope L a cd :: outer).filterMap (·.frame) := fun b hb hm => by
    rcases kts_mem hm with z | z
    · exact (O b hb).1 z
    · obtain ⟨_, o, ho, _⟩ := Kb.frames.mem z
      rw [(O b hb).2] at ho; cases ho
  have N₆ : News g₆ L h₆ (snap hc A) := fun p hp => by
    obtain ⟨hm, ho⟩ := mem_snap.mp hp
    exact ⟨st₆ _ _ (hB _ _ ho (nL _ hm)), (O _ hm).1, T₆.none_ _ (O _ hm).2⟩
  -- the exception and its dict stand on the ledger while the name is bound
  have eL : e ≠ L := fun q => by
    obtain ⟨_, L', o, hf, _, ho, hnf⟩ := held_top H₆
    obtain rfl : L = L' := Option.some.inj hf
    rw [← q, he₆] at ho; cases ho; exact hnf _ rfl
  have dL : dx ≠ L := fun q => by
    obtain ⟨_, L', o, hf, hn, _⟩ := held_top H₆
    obtain rfl : L = L' := Option.some.inj hf
    rw [q, hn] at hd; cases hd
  have Fk : ∀ {h₇ : Heap}, Heap.SameBut L h₆ h₇ → (∀ b o, b ≠ L → h₆.get? b = some o → h₇.get? b = some o) := fun hs b o nb q => (hs.2 b nb).trans q
  have X₆ := XB.keeps K₆.stays
  refine wpAny_storeName_local hlo F₆.ns (fun h₇ hn₇ hs₇ => ?_) (by show (scope.kind == .class || (scope.kind == .module && L != mainGlobals)) = false; rw [hk]; rfl)
  have F₇ := F₆.set hn₇ hs₇
  exact k g₆ h₇ _ vs sl hh tm tx n T₆ F₇ (N₆.set hs₇) K₆ X₆ (TB.keeps K₆.stays) (X₆.keeps F₇.keep) (Fk hs₇ _ _ eL he₆) (Fk hs₇ _ _ dL hd₆)
end
end
section
open PySem PySem.W PySem.Calls PyProof.Rows PyProof.V PySem.W.X
set_option linter.unusedVariables false
section
variable {prog : Program} {w : World} {A₀ : Around} {s : Shared} {K : Frag} {L : Addr} {h₀ base : Heap} {m mg mb : Str → Option Value} {news : List (Addr × Obj)} {p : Program} {loose : List Str} {mean : ExcName → Option Value}
theorem enterR {A : Around} {env : Env} {outer : List Env} {R : Result → Shared → Prop} {name qual : Str} {params : Arguments} {body : List Stmt} {scope : Scope} {dV kV doc pm cdv ct oc : Value} {an od : Option Addr} {osl : Array (Option Value)} {f : Addr} {args : Args} {binds : List (Str × Value)}
    (B : Below A₀ base outer h₀) (F : Fr h₀ L s.heap m) (X₀ : K.In h₀) (N : News h₀ L s.heap news) (T : Top p loose mean mg mb h₀) (hA : A.frames = some (env :: outer)) (hf : env.frame = some L) (hke : env.scope.kind = .function)
    (ho : K.lookup f = some ⟨oc, od, .func (fnOf name qual params body scope dV kV doc pm an cdv ct), osl⟩) (hcd : codeIn K cdv qual = true) (hroom : A.depth < recursionLimit)
    (hbind : BindsTo s (fnOf name qual params body scope dV kV doc pm an cdv ct) args binds) (hloc : ∀ y ∈ binds, scope.names.lookup y.1 = some .local)
    (h : ∀ g h₁, Fr h₀ L g m → Fr g s.heap.objs.size h₁ (fun y => binds.reverse.lookup y) → News g s.heap.objs.size h₁ news → Below A base (env :: outer) g → K.In g → Top p loose mean mg mb g → Hides s.heap news g →
      wpAny (model prog w) (A.deeper (envOf qual scope s.heap.objs.size f cdv)) (execs body (envOf qual scope s.heap.objs.size f cdv))
        (fun fl s' => R (.ok (.ret (match fl with | .ret v => v | _ => .none))) s')
        (fun e s' => wpAny (model prog w) (A.deeper (envOf qual scope s.heap.objs.size f cdv)) (leaving (envOf qual scope s.heap.objs.size f cdv) e) (fun _ s'' => R (.error e) s'') (fun e' s'' => R (.error e') s'') s')
        { s with heap := h₁, toks := s.toks + binds.length })
    (hco : scope.isCoroutine = false) (hgen : scope.isGenerator = false) (hk : scope.kind = .function)
    (hcell : ∀ x ∈ scope.names, x.2 ≠ .cell) : codeAny (model prog w) A (.call (.ref f) args) R s := by
  obtain ⟨FG, BG, st, lv⟩ := groundX (R := R) B F N hA hf hke
  have X := X₀.keeps F.keep
  refine codeAny_call_def (fd := fnOf name qual params body scope dV kV doc pm an cdv ct) (body := body) (binds := binds) hroom (X _ _ ho) rfl (T.nolimit.keeps F.keep) (codeRec_of X hcd) rfl hbind hcell hloc (fun h₁ hns hk₁ => ?_) hco hgen hk
  have HD : Hides s.heap news (hideAll s.heap (news.map (·.1))) :=
    ⟨fun b o e n => hideAll_get _ e fun q => by obtain ⟨x, hx, rfl⟩ := List.mem_map.mp q; exact n x hx rfl, fun b o e => of_hideAll _ e, hideAll_size _ _, fun x hx => (N x hx).1⟩
  exact h _ h₁ FG ⟨hns, fun b o e => hk₁ b o (of_hideAll _ e), Nat.le_of_eq (hideAll_size _ _)⟩
    (fun x hx => ⟨hk₁ _ _ (N x hx).1, Nat.ne_of_lt (Heap.lt_size (N x hx).1), hideAll_none _ (List.mem_map_of_mem hx)⟩) BG (X₀.keeps st) (T.keeps st) HD
end
theorem said_Done_1 : True := by
  k_with_none
  (k_with "m binaryOp Add str str" => (k_here; (with_reducible show wpAny _ _ (binaryOp Operator.Add (Value.str _ _) (Value.str _ _)) _ _ _); (refine' PyProof.Rows.add_str ?hh ?hsz; (case hsz => (have e1 := litA; have e2 := litB; have e3 := sz_line; (try rw [StrLaws.length_append]); omega)); intro t9 k9)))
  (k_with "m k_room" => first | k_dflt exact room_lt (k := 1) hdp rfl | k_dflt exact room_lt (k := 2) hdp rfl | k_dflt exact room_lt (k := 3) hdp rfl | k_dflt exact room_lt (k := 4) hdp rfl | k_dflt exact room_lt (k := 0) hdp rfl | decide | ((try simp only [depth_mark, depth_under_make, depth_under_kw, depth_in1, depth_deeper, depth_caller]); (try dsimp only [ktrTop]); (show (_ : Nat) < 1000); omega))
  (k_with "m k_units" => first | k_dflt exact unit_lt (k := 0) hun rfl | k_dflt exact unit_lt (k := 1) hun rfl | k_dflt exact unit_lt (k := 2) hun rfl | exact Nat.le_of_ble_eq_true rfl | ((try simp only [units_in1, units_deeper, Around.mark_units, units_caller]); (try dsimp only [ktrTop]); (show (_ : Nat) < 9900); omega))
  (k_with "m exec Raise some none" => (k_here; k_dflt (refine' raise_own ?hh ?_; (case hh => exact rfl))))
  (k_with "m call ref" => (k_here; (with_reducible show wpAny _ _ (call (Value.ref 44) [Value.str _ _]) _ _ _); (rename Fr _ _ _ _ => mF); k_dflt ((refine mk_K (by k_asm) mF (by k_asm) (by k_asm) (by (show (_ : Nat) ≤ 400; dsimp only; omega)) ?_); intro e dx t h' tk hh tm n F' N' st e1 e2 ne X'; (refine ⟨_, _, _, rfl, (N' _ (List.Mem.head _)).1, X', ?_⟩); (try k_unfold); (try dsimp only); (refine leave_refused (by k_asm) mF e1 e2 F' (N' _ (List.Mem.head _)).1 (N' _ (List.Mem.tail _ (List.Mem.head _))).1 (by first | assumption | exact stays_of (by assumption) mF (by k_asm)) st (by assumption) ?_ (by rfl)); intro h9 R9; (try dsimp only))))
  (k_with "m setItem ref str" => (k_here; k_dflt (refine' setItem_K PyProof.V.same_str (strKind_is _ _ _ _) ?v ?F ?N ?U ?d ?f ?_ ?z; (case F => k_asm); (case N => k_asm); (case U => k_updF); (case d => k_asm); (case f => k_asm); (case z => assumption); (case v => k_flat)); intro h' o' F' N' hd' hf'; (try dsimp only at N'); (try k_sweep)))
  (k_with "m M enter" => (refine wpAny_call ?_; k_dflt (refine' enter ?k1 ?k2 ?k3 ?k4 ?k5 ?kA ?kF ?kK ?k6 ?k7 ?k8 ?k9 ?kB ?_ ?c2 ?c3 ?c4 ?c5; (case kA => exact rfl); (case kF => exact rfl); (case kK => first | assumption | exact rfl); (case k1 => k_asm); (case k2 => k_asm); (case k3 => k_asm); (case k4 => k_asm); (case k5 => k_asm); (case k6 => k_is); (case k7 => k_is); (case k8 => (show (_ : Nat) < 1000; dsimp only; omega)); (case k9 => exact BindsTo.of_eq rfl); (case c5 => decide); (case kB => exact locs rfl); (case c2 => exact rfl); (case c3 => exact rfl); (case c4 => exact rfl); k_whole)))
  (k_with "m delItem ref str" => (k_here; k_dflt (refine' kt_del_K PyProof.V.same_str (strKind_is _ _ _ _) ?F ?N ?U ?d ?f ?l ?_ ?z; (case F => k_asm); (case N => k_asm); (case U => k_updF); (case d => k_asm); (case f => k_asm); (case l => first | with_reducible assumption | rfl); (case z => assumption)); intro h' o' F' N' hd' hf'; try dsimp only at N'))
  (k_with "m M room" => first | k_dflt exact room_le (k := 1) hdp rfl | k_dflt exact room_le (k := 0) hun rfl | k_dflt exact room_le (k := 1) hun rfl | k_dflt exact room_le (k := 2) hdp rfl | k_dflt exact room_le (k := 0) hdp rfl | ((try simp only [depth_mark, depth_under_make, depth_under_kw, depth_in1, depth_deeper, depth_caller, units_in1, units_deeper, Around.mark_units, units_caller]); (try dsimp only [ktrTop]); omega))
  (k_with "m M enterR" => (refine wpAny_call ?_; k_dflt (refine' enterR ?k1 ?k2 ?k3 ?k4 ?k5 ?kA ?kF ?kK ?k6 ?k7 ?k8 ?k9 ?kB ?_ ?c2 ?c3 ?c4 ?c5; (case kA => exact rfl); (case kF => exact rfl); (case kK => first | assumption | exact rfl); (case k1 => k_asm); (case k2 => k_asm); (case k3 => k_asm); (case k4 => k_asm); (case k5 => k_asm); (case k6 => k_is); (case k7 => k_is); (case k8 => (show (_ : Nat) < 1000; dsimp only; omega)); (case k9 => exact BindsTo.of_eq rfl); (case c5 => decide); (case kB => exact locs rfl); (case c2 => exact rfl); (case c3 => exact rfl); (case c4 => exact rfl); k_whole)))
  (k_with "m call ref" => (k_here; (with_reducible show wpAny _ _ (call (Value.ref 81) [_, _, _]) _ _ _); (rename Fr _ _ _ _ => mF); (rename AllSt _ _ _ => mS); (rename Off _ _ _ => mO); (rename Heap.StaysIn _ _ => mT); (rename ∀ j, j < 4 → _ ≤ 10000 => mZ); k_dflt (refine' define_spec ?k1 ?k2 ?k3 ?k4 ?hk ?hdp ?hun ?k5 ?k6 ?k7 ?k8 ?_ ?_; (case k1 => k_asm); (case k2 => exact mF); (case k3 => k_asm); (case k4 => k_asm); (case hk => exact rfl); (case hdp => walk_at "M room"); (case hun => walk_at "M room"); (case k5 => exact AllSt.st mS _ (by assumption)); (case k6 => exact Off.mono mO fun b hb => mem_feet.mpr ⟨_, (by assumption), hb⟩); (case k7 => exact mZ _ (by assumption)); (case k8 => assumption); (all_goals first | (intro h' tk' hM F' S' K'; (have N' := news_snap (h := h') mO); clear mF; (try k_fold)) | (intro msg e dx h' tk' hN R'; (try k_unfold); (try dsimp only); refine catch_own (by assumption) mF (by assumption) (by assumption) R' mO ?_; clear R' mF; intro g' h' tk' vs sl hh tm tx n KT F' N' B' X' T' XX he hdx; (try dsimp only); (try k_fold))))))
  (k_with "m call ref" => (k_here; (with_reducible show wpAny _ _ (call (Value.ref 95) [_, _, _, _]) _ _ _); (rename Fr _ _ _ _ => mF); (rename AllSt _ _ _ => mS); (rename Off _ _ _ => mO); (rename Heap.StaysIn _ _ => mT); (rename ∀ j, j < 4 → _ ≤ 10000 => mZ); k_dflt (refine' asg_spec ?k1 ?k2 ?k3 ?k4 ?hk ?hdp ?hun ?k5 ?k6 ?k7 ?k8 ?k9 ?k10 ?_ ?_; (case k1 => k_asm); (case k2 => exact mF); (case k3 => k_asm); (case k4 => k_asm); (case hk => exact rfl); (case hdp => walk_at "M room"); (case hun => walk_at "M room"); (case k5 => exact mS); (case k6 => exact mO); (case k7 => assumption); (case k8 => assumption); (case k9 => assumption); (case k10 => exact mZ); (all_goals first | (intro j h' tk' hJ hM F' S' K'; (have N' := news_snap (h := h') mO); clear mF; (try k_fold)) | (intro msg e dx h' tk' hN R'; (try k_unfold); (try dsimp only); refine catch_own (by assumption) mF (by assumption) (by assumption) R' mO ?_; clear R' mF; intro g' h' tk' vs sl hh tm tx n KT F' N' B' X' T' XX he hdx; (try dsimp only); (try k_fold))))))
  (k_with "m call ref" => (k_here; (with_reducible show wpAny _ _ (call (Value.ref 102) [_, _]) _ _ _); (rename Fr _ _ _ _ => mF); (rename AllSt _ _ _ => mS); (rename Off _ _ _ => mO); (rename Heap.StaysIn _ _ => mT); (rename ∀ j, j < 4 → _ ≤ 10000 => mZ); k_dflt (refine' remove_spec ?k1 ?k2 ?k3 ?k4 ?hk ?hdp ?hun ?k5 ?k6 ?k7 ?k8 ?_ ?_ ?_; (case k1 => k_asm); (case k2 => exact mF); (case k3 => k_asm); (case k4 => k_asm); (case hk => exact rfl); (case hdp => walk_at "M room"); (case hun => walk_at "M room"); (case k5 => exact AllSt.st mS _ (by assumption)); (case k6 => exact Off.mono mO fun b hb => mem_feet.mpr ⟨_, (by assumption), hb⟩); (case k7 => exact mZ _ (by assumption)); (case k8 => assumption); (all_goals first | (intro h' tk' hM F' K'; (have K9 : Keep _ _ _ := K'); (have N' := news_snap (h := h') mO); clear mF; (try k_fold)) | (intro h' tk' hM F' S' K'; (have N' := news_snap (h := h') mO); clear mF; (try k_fold)) | (intro msg e dx h' tk' hN R'; (try k_unfold); (try dsimp only); refine catch_own (by assumption) mF (by assumption) (by assumption) R' mO ?_; clear R' mF; intro g' h' tk' vs sl hh tm tx n KT F' N' B' X' T' XX he hdx; (try dsimp only); (try k_fold))))))
  (k_with "m getAttr ref" => (k_here; (with_reducible show wpAny _ _ (getAttr (Value.ref _) (PySem.Str.ofString "message") _) _ _ _); k_dflt (refine' get_message ?k1 ?k2 ?k3 ?k4 ?k5 ?_; (case k1 => assumption); (case k2 => assumption); (case k3 => assumption); (case k4 => walk_at "M room"); (case k5 => walk_at "M room"); intro tk9; (try dsimp only))))
  trivial
section
variable {w : World} {mean : ExcName → Option Value} {mg mb : Str → Option Value} {dp un : Nat} {gd : Option (List Code)} {cn : Str} {cs : Scope} {a : Addr} {ccd : Value} {cl : List (Str × Addr)} {A₀ : Around} {base h₀ : Heap} {L : Addr} {m : Str → Option Value} {s : Shared} {Q E : Value → Shared → Prop}
  {P : Nat → EP} {x : Str} {tx : Tok} {i : Nat} {v : Int} {tv : Tok} {kind : Int} {tkd : Tok}
noncomputable def doneW (kind : Int) (P : Nat → EP) (i : Nat) (x : Str) (v : Int) : Str :=
  if kind < 4 then (bindR (P i).E (P i).cl x v).1.getD (Str.ofString "") else if kind < 7 then (asgMsg P i x v).getD (Str.ofString "")
  else match (takeR (P i).E (P i).cl x).1 with | none => Str.ofString "no" | some none => Str.ofString "yes" | some (some msg) => msg
noncomputable def bindP (P : Nat → EP) (j : Nat) (x : Str) (v : Int) : Nat → EP := setP P j { P j with E := (bindR (P j).E (P j).cl x v).2, k := (P j).k + 1 }
noncomputable def doneP (kind : Int) (P : Nat → EP) (i : Nat) (x : Str) (v : Int) : Nat → EP :=
  if kind < 4 then bindP P i x v else if kind < 7 then (match holdR P i x with | none => P | some j => bindP P j x v)
  else setP P i { P i with E := (takeR (P i).E (P i).cl x).2 }
theorem back_law {g sheap : Heap} {A : List Addr} (FG : Fr h₀ L g m) (HD : Hides sheap (snap sheap A) g) (O : Off h₀ L A) {g' h8 : Heap} {L1 : Addr} {m8 : Str → Option Value} (T : KtsTurn [L] g g') (F8 : Fr g' L1 h8 m8)
    (live : ∀ b ∈ A, ∃ o, h8.get? b = some o) : Fr h₀ L h8 m ∧ Keep sheap (L :: A) h8 := by
  have h0L : h₀.get? L = none := kts_self FG
  have up : ∀ b o, g.get? b = some o → b ≠ L → h8.get? b = some o := fun b o e n => F8.keep _ _ (T.other b o e (by simpa using n))
  have U : g.UpToSlots h8 := fun b o e _ => by
    obtain ⟨sl, q⟩ := T.up e
    exact ⟨sl, F8.keep _ _ q⟩
  refine ⟨⟨U.ns FG.ns, fun b o e => up b o (FG.keep b o e) fun q => ?_, FG.above⟩, fun b o e n => ?_, fun b o e => ?_⟩
  · rw [q, h0L] at e; cases e
  · refine up b o (HD.get b o e fun p hp q => n (.tail _ (q ▸ (mem_snap.mp hp).1))) fun q => n (q ▸ .head _)
  · by_cases q : b ∈ A
    · exact live b q
    · obtain ⟨sl, z⟩ := T.up (HD.get b o e fun p hp y => q (y ▸ (mem_snap.mp hp).1))
      exact ⟨_, F8.keep _ _ z⟩
theorem bindR_bad {E : List Ent} {c : Bool} {msg : Str} (h : (bindR E c x v).1 = some msg) : (bindR E c x v).2 = E := by
  unfold bindR at h ⊢
  split at h
  · rfl
  · cases h
  · split at h
    · rw [if_pos (by assumption)]
    · cases h
theorem takeR_none {E : List Ent} {c : Bool} (h : (takeR E c x).1 = none) : (takeR E c x).2 = E := by
  unfold takeR at h ⊢
  split at h
  · rfl
  · split at h <;> cases h
theorem takeR_bad {E : List Ent} {c : Bool} {msg : Str} (h : (takeR E c x).1 = some (some msg)) : (takeR E c x).2 = E := by
  unfold takeR at h ⊢
  split at h
  · rfl
  · split at h
    · rw [if_pos (by assumption)]
    · cases h
theorem fin_bind {h₁ h' : Heap} {j : Nat} (mS : AllSt w P h₁) (hj : j < 4) (S' : EnvSt w { P j with E := (bindR (P j).E (P j).cl x v).2, k := (P j).k + 1 } h') (K' : Keep h₁ [(P j).f] h') : AllSt w (bindP P j x v) h' :=
  mS.set hj S' (K'.mono (by simp [EP.foot])) rfl rfl rfl rfl
theorem fin_bad {h8 : Heap} {j : Nat} {msg : Str} (S8 : AllSt w P h8) (hj : j < 4) (hN : (bindR (P j).E (P j).cl x v).1 = some msg) : AllSt w (bindP P j x v) h8 := by
  refine S8.set hj ?_ (Keep.refl _ _) rfl rfl rfl rfl
  rw [bindR_bad hN]
  exact (S8.st j hj).mono (Nat.le_succ _)
theorem bindP_feet {j : Nat} : feet (bindP P j x v) = feet P := setP_feet rfl
theorem doneP_feet : feet (doneP kind P i x v) = feet P := by
  unfold doneP
  split
  · exact bindP_feet
  split
  · split
    · rfl
    · exact bindP_feet
  · exact setP_feet rfl
theorem S_c1 {h₁ h' : Heap} (mS : AllSt w P h₁) (hi : i < 4) (a : kind < 4) (S' : EnvSt w { P i with E := (bindR (P i).E (P i).cl x v).2, k := (P i).k + 1 } h') (K' : Keep h₁ [(P i).f] h') : AllSt w (doneP kind P i x v) h' := by
  unfold doneP; rw [if_pos a]; exact fin_bind mS hi S' K'
theorem W_c1 (a : kind < 4) (hM : (bindR (P i).E (P i).cl x v).1 = none) : doneW kind P i x v = Str.ofString "" := by
  unfold doneW; rw [if_pos a, hM]; rfl
theorem S_c1b {h8 : Heap} {msg : Str} (S8 : AllSt w P h8) (hi : i < 4) (a : kind < 4) (hN : (bindR (P i).E (P i).cl x v).1 = some msg) : AllSt w (doneP kind P i x v) h8 := by
  unfold doneP; rw [if_pos a]; exact fin_bad S8 hi hN
theorem W_c1b {msg : Str} (a : kind < 4) (hN : (bindR (P i).E (P i).cl x v).1 = some msg) : doneW kind P i x v = msg := by
  unfold doneW; rw [if_pos a, hN]; rfl
theorem S_c2 {h₁ h' : Heap} {j : Nat} (mS : AllSt w P h₁) (a : ¬ kind < 4) (b : kind < 7) (hJ : holdR P i x = some j) (S' : EnvSt w { P j with E := (bindR (P j).E (P j).cl x v).2, k := (P j).k + 1 } h') (K' : Keep h₁ [(P j).f] h') : AllSt w (doneP kind P i x v) h' := by
  unfold doneP; rw [if_neg a, if_pos b, hJ]; exact fin_bind mS (holdR_lt hJ).2 S' K'
theorem W_c2 {j : Nat} (a : ¬ kind < 4) (b : kind < 7) (hJ : holdR P i x = some j) (hM : (bindR (P j).E (P j).cl x v).1 = none) : doneW kind P i x v = Str.ofString "" := by
  unfold doneW asgMsg; rw [if_neg a, if_pos b, hJ]; dsimp only; rw [hM]; rfl
theorem S_c2b {h8 : Heap} {msg : Str} (S8 : AllSt w P h8) (a : ¬ kind < 4) (b : kind < 7) (hN : asgMsg P i x v = some msg) : AllSt w (doneP kind P i x v) h8 := by
  unfold doneP; rw [if_neg a, if_pos b]
  unfold asgMsg at hN
  split
  · exact S8
  · rename_i j hJ
    rw [hJ] at hN
    exact fin_bad S8 (holdR_lt hJ).2 hN
theorem W_c2b {msg : Str} (a : ¬ kind < 4) (b : kind < 7) (hN : asgMsg P i x v = some msg) : doneW kind P i x v = msg := by
  unfold doneW; rw [if_neg a, if_pos b, hN]; rfl
theorem S_c3 {h₁ h' : Heap} (mS : AllSt w P h₁) (hi : i < 4) (a : ¬ kind < 4) (b : ¬ kind < 7) (S' : EnvSt w { P i with E := (takeR (P i).E (P i).cl x).2 } h') (K' : Keep h₁ [(P i).f, (P i).l] h') : AllSt w (doneP kind P i x v) h' := by
  unfold doneP; rw [if_neg a, if_neg b]; exact mS.set hi S' (K'.mono (by simp [EP.foot])) rfl rfl rfl rfl
theorem W_c3 (a : ¬ kind < 4) (b : ¬ kind < 7) (hM : (takeR (P i).E (P i).cl x).1 = some none) : doneW kind P i x v = Str.ofString "yes" := by
  unfold doneW; rw [if_neg a, if_neg b, hM]
theorem W_c3n (a : ¬ kind < 4) (b : ¬ kind < 7) (hM : (takeR (P i).E (P i).cl x).1 = none) : doneW kind P i x v = Str.ofString "no" := by
  unfold doneW; rw [if_neg a, if_neg b, hM]
theorem W_c3b {msg : Str} (a : ¬ kind < 4) (b : ¬ kind < 7) (hM : (takeR (P i).E (P i).cl x).1 = some (some msg)) : doneW kind P i x v = msg := by
  unfold doneW; rw [if_neg a, if_neg b, hM]
theorem S_c3s {h8 : Heap} (S8 : AllSt w P h8) (hi : i < 4) (a : ¬ kind < 4) (b : ¬ kind < 7) (hE : (takeR (P i).E (P i).cl x).2 = (P i).E) : AllSt w (doneP kind P i x v) h8 := by
  unfold doneP; rw [if_neg a, if_neg b]
  refine S8.set hi ?_ (Keep.refl _ _) rfl rfl rfl rfl
  rw [hE]
  exact S8.st i hi
theorem done_close {g g' h8 : Heap} {L1 : Addr} {m8 : Str → Option Value} {t : Tok} {tk : Nat} {msg : Str} (k : ∀ h' tk' t, Fr h₀ L h' m → AllSt w (doneP kind P i x v) h' → Keep s.heap (L :: feet P) h' → Q (.str (doneW kind P i x v) t) { s with heap := h', toks := tk' })
    (FG : Fr h₀ L g m) (HD : Hides s.heap (snap s.heap (feet P)) g) (O : Off h₀ L (feet P)) (T : KtsTurn [L] g g') (F8 : Fr g' L1 h8 m8) (hW : doneW kind P i x v = msg) (S8 : AllSt w (doneP kind P i x v) h8) : Q (.str msg t) { s with heap := h8, toks := tk } := by
  obtain ⟨a, b⟩ := back_law FG HD O T F8 fun b hb => S8.there b (by rw [doneP_feet]; exact hb)
  exact hW ▸ k h8 tk t a S8 b
theorem end_S {h₁ h8 g' : Heap} {L1 : Addr} (mS : AllSt w P h₁) (N : News g' L1 h8 (snap h₁ (feet P))) : AllSt w P h8 := mS.keep fun b hb o e => snap_get N hb e
theorem end_K {h₁ h8 : Heap} (mS : AllSt w P h₁) (K : Keep h₁ [] h8) : AllSt w P h8 := mS.keep fun b _ o e => K.nil b o e
set_option maxRecDepth 100000 in
set_option maxHeartbeats 8000000 in
theorem done_spec
   (B : Below A₀ base [] h₀) (F : Fr h₀ L s.heap m) (X : (hd.heap_39 w.params).In h₀) (T : Top VW LO mean mg mb h₀) (XB : (hd.heap_39 w.params).In base) (TB : Top VW LO mean mg mb base) (hk : cs.kind = .function) (hdp : dp ≤ 380) (hun : un ≤ 880)
   (S : AllSt w P s.heap) (O : Off h₀ L (feet P)) (hi : 1 ≤ i) (hi' : i < 4) (hxl : x.length ≤ 100) (hsz : ∀ j < 4, (P j).k ≤ 10000)
   (k : ∀ h' tk' t, Fr h₀ L h' m → AllSt w (doneP kind P i x v) h' → Keep s.heap (L :: feet P) h' → Q (.str (doneW kind P i x v) t) { s with heap := h', toks := tk' })
   : wpAny (model PR w) (ktrTop dp un gd cn cs L a ccd cl []) (call (.ref 176) [.int kind tkd, .ref (P i).e, .str x tx, .int v tv, .ref (P 1).e]) Q E s := by
  have N : News h₀ L s.heap (snap s.heap (feet P)) := news_snap O
  have O0 := O
  walk_at "M enterR"
  intro g h₁ FG F' N' B' X' T' HD
  have st9 : s.heap.StaysIn h₁ := stays_of HD F' N'
  have sL9 : s.heap.get? s.heap.objs.size = none := Heap.get?_none_of_le (Nat.le_refl _)
  have S9 : AllSt w P h₁ := S.keep fun b _ o e => st9 b o e
  have O9 : Off g s.heap.objs.size (feet P) := Off.of_news N' S.there
  have Dn := fun {g' h8 : Heap} {L1 : Addr} {m8 : Str → Option Value} {t : Tok} {tk : Nat} {msg : Str} => done_close (g' := g') (h8 := h8) (L1 := L1) (m8 := m8) (t := t) (tk := tk) (msg := msg) k FG HD O0
  clear k
  clear S O O0 FG
  try dsimp only
  try k_fold
  k_steps
  all_goals try dsimp only
  all_goals first
    | exact Dn KtsTurn.refl (by assumption) (W_c1 (by assumption) (by assumption)) (S_c1 (by assumption) hi' (by assumption) (by assumption) (by assumption))
    | exact Dn (by assumption) (by assumption) (W_c1b (by assumption) (by assumption)) (S_c1b (end_S (by assumption) (by assumption)) hi' (by assumption) (by assumption))
    | exact Dn KtsTurn.refl (by assumption) (W_c2 (by assumption) (by assumption) (by assumption) (by assumption)) (S_c2 (by assumption) (by assumption) (by assumption) (by assumption) (by assumption) (by assumption))
    | exact Dn (by assumption) (by assumption) (W_c2b (by assumption) (by assumption) (by assumption)) (S_c2b (end_S (by assumption) (by assumption)) (by assumption) (by assumption) (by assumption))
    | exact Dn KtsTurn.refl (by assumption) (W_c3 (by assumption) (by assumption) (by assumption)) (S_c3 (by assumption) hi' (by assumption) (by assumption) (by assumption) (by assumption))
    | exact Dn KtsTurn.refl (by assumption) (W_c3n (by assumption) (by assumption) (by assumption)) (S_c3s (end_K (by assumption) (by assumption)) hi' (by assumption) (by assumption) (takeR_none (by assumption)))
    | exact Dn (by assumption) (by assumption) (W_c3b (by assumption) (by assumption) (by assumption)) (S_c3s (end_S (by assumption) (by assumption)) hi' (by assumption) (by assumption) (takeR_bad (by assumption)))
end
end
section
open PySem PySem.W PySem.Calls PyProof.Rows PyProof.V PySem.W.X
structure RP where
  r : Addr
  l : Addr
  D : List (Addr × Ent)
  c : Bool
noncomputable def RP.E (R : RP) : List Ent := R.D.map (·.2)
noncomputable def RP.foot (R : RP) : List Addr := R.r :: R.l :: R.D.map (·.1)
structure RowSt (R : RP) (h : Heap) : Prop where
  row : ∃ n, h.get? R.r = some (PySem.W.listOf #[.ref R.l, .bool R.c] n)
  lst : ∃ n, h.get? R.l = some (PySem.W.listOf (R.D.map fun p => Value.ref p.1).toArray n)
  ents : ∀ p ∈ R.D, ∃ t u n, h.get? p.1 = some (PySem.W.listOf #[.str p.2.1 t, .int p.2.2.1 u, .bool p.2.2.2] n)
  apart : R.foot.Nodup
theorem RowSt.keep {R : RP} {h h' : Heap} (S : RowSt R h) (k : ∀ b ∈ R.foot, ∀ o, h.get? b = some o → h'.get? b = some o) : RowSt R h' where
  row := let ⟨n, e⟩ := S.row; ⟨n, k _ (.head _) _ e⟩
  lst := let ⟨n, e⟩ := S.lst; ⟨n, k _ (.tail _ (.head _)) _ e⟩
  ents := fun p hp => let ⟨t, u, n, e⟩ := S.ents p hp; ⟨t, u, n, k _ (.tail _ (.tail _ (List.mem_map_of_mem hp))) _ e⟩
  apart := S.apart
theorem RowSt.there {R : RP} {h : Heap} (S : RowSt R h) : ∀ b ∈ R.foot, ∃ o, h.get? b = some o := by
  intro b hb
  rcases List.mem_cons.mp hb with rfl | hb
  · obtain ⟨n, e⟩ := S.row; exact ⟨_, e⟩
  rcases List.mem_cons.mp hb with rfl | hb
  · obtain ⟨n, e⟩ := S.lst; exact ⟨_, e⟩
  · obtain ⟨p, hp, rfl⟩ := List.mem_map.mp hb
    obtain ⟨t, u, n, e⟩ := S.ents p hp; exact ⟨_, e⟩
abbrev RowSt.rp {R : RP} {h : Heap} (_ : RowSt R h) : RP := R
theorem RowSt.off {R : RP} {h : Heap} (S : RowSt R h) : ∀ p ∈ R.D, p.1 ≠ R.r ∧ p.1 ≠ R.l := fun p hp => by
  have ap := S.apart
  unfold RP.foot at ap
  rw [List.nodup_cons, List.nodup_cons] at ap
  exact ⟨fun e => ap.1 (.tail _ (e ▸ List.mem_map_of_mem hp)), fun e => ap.2.1 (e ▸ List.mem_map_of_mem hp)⟩
structure RowTo (h : Heap) (R : RP) (E' : List Ent) (R' : RP) (h' : Heap) : Prop where
  st : RowSt R' h'
  r : R'.r = R.r
  c : R'.c = R.c
  E : R'.E = E'
  keep : Keep h R.foot h'
  fresh : ∀ b ∈ R'.foot, b ∈ R.foot ∨ h.get? b = none
noncomputable def takeW (E : List Ent) (c : Bool) (x : Str) : Str := match (takeR E c x).1 with | none => Str.ofString "no" | some none => Str.ofString "yes" | some (some msg) => msg
theorem RowTo.same {h h' : Heap} {R : RP} (S : RowSt R h) (K : Keep h [] h') : RowTo h R R.E R h' :=
  ⟨S.keep fun b _ o e => K.nil b o e, rfl, rfl, rfl, K.mono (by simp), fun _ hb => .inl hb⟩
theorem keep_of2 {h g h' : Heap} {L' : Addr} {m' : Str → Option Value} {led led' : List (Addr × Obj)} (HD : Hides h led g) (F' : Fr g L' h' m') (N' : News g L' h' led') (A : List Addr)
    (h1 : ∀ p ∈ led, p.1 ∈ A ∨ p ∈ led') (h2 : ∀ p ∈ led, p.1 ∈ led'.map (·.1)) : Keep h A h' := by
  refine ⟨fun b o e nb => ?_, fun b o e => ?_⟩
  · by_cases q : ∃ p ∈ led, p.1 = b
    · obtain ⟨p, hp, rfl⟩ := q
      have := HD.at_ p hp
      rw [e] at this
      rcases h1 p hp with z | z
      · exact absurd z nb
      · rw [Option.some.inj this]; exact (N' p z).1
    · exact F'.keep _ _ (HD.get b o e fun p hp z => q ⟨p, hp, z⟩)
  · by_cases q : ∃ p ∈ led, p.1 = b
    · obtain ⟨p, hp, rfl⟩ := q
      obtain ⟨q, hq, hqp⟩ := List.mem_map.mp (h2 p hp)
      exact ⟨q.2, hqp ▸ (N' q hq).1⟩
    · exact ⟨o, F'.keep _ _ (HD.get b o e fun p hp z => q ⟨p, hp, z⟩)⟩
theorem fresh_of {h g h' : Heap} {L' : Addr} {led led' : List (Addr × Obj)} (HD : Hides h led g) (N' : News g L' h' led') {b : Addr} (hb : b ∈ led'.map (·.1)) (hn : b ∉ led.map (·.1)) : h.get? b = none := by
  cases q : h.get? b with
  | none => rfl
  | some o =>
    obtain ⟨p, hp, rfl⟩ := List.mem_map.mp hb
    have := (N' p hp).2.2
    rw [HD.get _ _ q fun z hz e => hn (e ▸ List.mem_map_of_mem hz)] at this
    cases this
theorem row_of {R : RP} {h₀ h : Heap} {L : Addr} {led : List (Addr × Obj)} {n0 n1 : Nat} (N : News h₀ L h led) (h1 : (R.r, PySem.W.listOf #[.ref R.l, .bool R.c] n0) ∈ led) (h2 : (R.l, PySem.W.listOf (R.D.map fun p => Value.ref p.1).toArray n1) ∈ led)
    (h3 : ∀ p ∈ R.D, ∃ t u n, (p.1, PySem.W.listOf #[.str p.2.1 t, .int p.2.2.1 u, .bool p.2.2.2] n) ∈ led) (ap : R.foot.Nodup) : RowSt R h :=
  ⟨⟨n0, (N _ h1).1⟩, ⟨n1, (N _ h2).1⟩, fun p hp => let ⟨t, u, n, e⟩ := h3 p hp; ⟨t, u, n, (N _ e).1⟩, ap⟩
section
variable {R R' : RP} {h₀ h g h' : Heap} {L L' : Addr} {m m' : Str → Option Value} {led led' : List (Addr × Obj)} {n n0 n1 : Nat} {x : Str} {v : Int} {t u : Tok} {l' : Addr}
theorem keep0 (HD : Hides h led g) (F' : Fr g L' h' m') (N' : News g L' h' led') (h1 : ∀ p ∈ led, p ∈ led') : Keep h [] h' :=
  keep_of2 HD F' N' _ (fun p hp => .inr (h1 p hp)) fun p hp => List.mem_map_of_mem (h1 p hp)
variable {s : Shared} {Q : Value → Shared → Prop} {tk : Nat} {msg : Str}
theorem bc_ok {tt : Tok} (k : ∀ h' tk' t R', Fr h₀ L h' m → RowTo s.heap R (bindR R.E R.c x v).2 R' h' → Q (.str ((bindR R.E R.c x v).1.getD (Str.ofString "")) t) { s with heap := h', toks := tk' })
    {E' : List Ent} (hB : bindR R.E R.c x v = (none, E')) (F : Fr h₀ L h' m) (to : RowTo s.heap R E' R' h') : Q (.str (Str.ofString "") tt) { s with heap := h', toks := tk } := by
  have := k h' tk tt R' F (by rw [hB]; exact to)
  rw [hB] at this
  exact this
theorem bc_bad {tt : Tok} (k : ∀ h' tk' t R', Fr h₀ L h' m → RowTo s.heap R (bindR R.E R.c x v).2 R' h' → Q (.str ((bindR R.E R.c x v).1.getD (Str.ofString "")) t) { s with heap := h', toks := tk' })
    (hB : bindR R.E R.c x v = (some msg, R.E)) (F : Fr h₀ L h' m) (S : RowSt R s.heap) (K : Keep s.heap [] h') : Q (.str msg tt) { s with heap := h', toks := tk } := by
  have := k h' tk tt R F (by rw [hB]; exact RowTo.same S K)
  rw [hB] at this
  exact this
theorem hs_close {b : Bool} (k : ∀ h' tk', Fr h₀ L h' m → Keep s.heap [] h' → Q (.bool (has x R.E)) { s with heap := h', toks := tk' }) (hb : has x R.E = b) (F : Fr h₀ L h' m) (K : Keep s.heap [] h') : Q (.bool b) { s with heap := h', toks := tk } := hb ▸ k h' tk F K
end
end
section
open PySem PySem.W PySem.Calls PyProof.Rows PyProof.V PySem.W.X
set_option linter.unusedVariables false
section
variable {h₀ h h' : Heap} {L : Addr}
noncomputable def rest (h : Heap) (F A : List Addr) : List (Addr × Obj) := (snap h F).filter fun p => !A.contains p.1
theorem rest_ne {F A : List Addr} {b : Addr} (hb : b ∈ A) : ∀ p ∈ rest h F A, p.1 ≠ b := fun p hp e => by
  have := (List.mem_filter.mp hp).2
  rw [e] at this
  simp [hb] at this
theorem rest_news {F A : List Addr} (o : Off h₀ L F) : News h₀ L h (rest h F A) := fun p hp => news_snap o p (List.mem_filter.mp hp).1
theorem rest_get {F A : List Addr} {led : List (Addr × Obj)} (N : News h₀ L h' led) (hs : ∀ p ∈ rest h F A, p ∈ led) : ∀ b ∈ F, b ∉ A → ∀ o, h.get? b = some o → h'.get? b = some o := fun b hb n o e =>
  (N (b, o) (hs _ (List.mem_filter.mpr ⟨mem_snap.mpr ⟨hb, e⟩, by simp [n]⟩))).1
end
noncomputable def StopN (P : Prop) : Prop := P
theorem stopN {P : Prop} (h : StopN P) : P := h
theorem look_at {x : Str} : ∀ {E : List Ent} {k : Nat} {p : Ent}, E[k]? = some p → (∀ j < k, ∀ q, E[j]? = some q → q.1 ≠ x) → p.1 = x → look x E = some p.2
  | [], k, p, h, _, _ => by simp at h
  | (y, v, b) :: E, 0, p, h, _, e => by
    simp only [List.getElem?_cons_zero, Option.some.injEq] at h
    subst h
    unfold look; rw [if_pos e]
  | (y, v, b) :: E, k + 1, p, h, n, e => by
    unfold look
    rw [if_neg (n 0 (Nat.succ_pos _) (y, v, b) rfl)]
    exact look_at (k := k) (by simpa using h) (fun j hj q hq => n (j + 1) (Nat.succ_lt_succ hj) q (by simpa using hq)) e
theorem look_no {x : Str} {E : List Ent} (h : ∀ j < E.length, ∀ q, E[j]? = some q → q.1 ≠ x) : look x E = none := by
  rw [look_none_iff]
  intro p hp
  obtain ⟨j, hj, e⟩ := List.mem_iff_getElem.mp hp
  exact h j hj p (by rw [List.getElem?_eq_getElem hj, e])
theorem ap_ne {l : List Addr} (n : l.Nodup) (i j : Nat) (h : i ≠ j) {a b : Addr} (x : l[i]? = some a) (y : l[j]? = some b) : @Ne Nat a b := fun q => by
  have hi : i < l.length := by
    rcases Nat.lt_or_ge i l.length with z | z
    · exact z
    · rw [List.getElem?_eq_none z] at x; cases x
  exact h ((List.getElem?_inj hi n).mp (x.trans (by rw [y, show a = b from q])))
theorem ent_at {D : List (Addr × Ent)} {k : Nat} {v : Value} (hv : (D.map fun p => Value.ref p.1).toArray[k]? = some v) : ∃ p, D[k]? = some p ∧ v = Value.ref p.1 := by
  simp only [List.getElem?_toArray, List.getElem?_map] at hv
  obtain ⟨p, a, b⟩ := Option.map_eq_some_iff.mp hv
  exact ⟨p, a, b.symm⟩
theorem keep_foot {h g h' : Heap} {L' : Addr} {m' : Str → Option Value} {led : List (Addr × Obj)} {A : List Addr} (HD : Hides h led g) (hled : led = snap h A) (F' : Fr g L' h' m') (lv : ∀ b ∈ A, ∃ o', h'.get? b = some o') : Keep h A h' := by
  have out : ∀ b o, h.get? b = some o → b ∉ A → h'.get? b = some o := fun b o e nb => F'.keep _ _ (HD.get b o e fun p hp z => nb (by rw [hled] at hp; exact z ▸ (mem_snap.mp hp).1))
  refine ⟨out, fun b o e => ?_⟩
  by_cases q : b ∈ A
  · exact lv b q
  · exact ⟨o, out b o e q⟩
end
section
open PySem PySem.W PySem.Calls PyProof.Rows PyProof.V PySem.W.X
set_option linter.unusedVariables false
section
variable {prog : Program} {w : World} {A : Around} {E : Value → Shared → Prop} {s : Shared} {env : Env} {h₀ : Heap} {x : Str} {body : List Stmt} {Q : Flow → Shared → Prop}
noncomputable def EachPost (h₀ : Heap) (L : Addr) (I : Addr) (oI : Obj) (l : Option (Addr × Obj)) (J : List Addr → Heap → (Str → Option Value) → Prop) (s₁ : Shared) (Q : Flow → Shared → Prop) (f : Flow) (s₂ : Shared) : Prop :=
  match f with
  | .ret v => Q (.ret v) s₂
  | .brk => Q .next s₂
  | _ => ∃ h' tk' m' F', s₂ = { s₁ with heap := h', toks := tk' } ∧ Fr h₀ L h' m' ∧ J F' h' m' ∧ I ∉ F' ∧ h'.get? I = some oI ∧ ∀ p, l = some p → h'.get? p.1 = some p.2
theorem each_core {I : Addr} {fp : List Addr} {n : Nat} {P : Nat → Value → Prop} {St : Nat → Heap → Prop} {m₀ : Str → Option Value} (J : Nat → List Addr → Heap → (Str → Option Value) → Prop) (F₀ : List Addr)
    (keepJ : ∀ i F h h' m, J i F h m → (∀ b ∈ F, ∀ o, h.get? b = some o → h'.get? b = some o) → J i F h' m) (offJ : ∀ i F h m, J i F h m → Off h₀ env.locals F)
    (W : Walks prog w A I fp [I] n P St) (hLf : env.locals ∉ fp) (hI : h₀.get? I = none)
    (hSt : ∀ i h, St i h → ∀ b ∈ fp, ∃ o, h.get? b = some o) (hst : St 0 s.heap) (F : Fr h₀ env.locals s.heap m₀) (hj : J 0 F₀ s.heap m₀) (hI0 : I ∉ F₀) (lo : Option Addr) (hfl : ∀ b ∈ fp, b = I ∨ lo = some b ∨ ∃ o, h₀.get? b = some o) (hlo : ∀ b, lo = some b → b ∈ fp)
    (turn : ∀ i v F₁ m₁ h tk oI l, i < n → P i v → J i F₁ h m₁ → I ∉ F₁ → h.get? I = some oI → (∀ b, lo = some b → ∃ o, l = some (b, o)) → (∀ p, l = some p → h.get? p.1 = some p.2 ∧ lo = some p.1) → Fr h₀ env.locals h (fun y => if y = x then some v else m₁ y) →
      wpAny (model prog w) A (execs body env) (EachPost h₀ env.locals I oI l (J (i + 1)) { s with heap := h, toks := tk } Q) E { s with heap := h, toks := tk })
    (done : ∀ h' tk m' F', J n F' h' m' → Fr h₀ env.locals h' m' → Q .next { s with heap := h', toks := tk }) :
    LoopAtV prog w A h₀ env x body Q E (.ref I) s := by
  have hIf : I ∈ fp := W.sub _ (List.mem_singleton.mpr rfl)
  let J' : Nat → (Str → Option Value) → List (Addr × Obj) → Prop := fun i m nx => ∃ F h, J i F h m ∧ nx = snap h F ∧ I ∉ F
  refine ⟨I, fp, [I], n, P, St, m₀, snap s.heap F₀, J', rfl, W, hLf, fun b hb => (List.mem_singleton.mp hb) ▸ hI, fun p hp q => hI0 ((List.mem_singleton.mp q) ▸ (mem_snap.mp hp).1), hst, F, news_snap (offJ _ _ _ _ hj), ⟨F₀, s.heap, hj, rfl, hI0⟩, ?_, ?_⟩
  · rintro i v m₁ nx s₁ own ⟨h1, tk1, rfl⟩ hin hP ⟨F₁, hh, hJ, rfl, hIF⟩ hoff hown hownh hmem hst' Fr₁ N₁
    have N₂ : News h₀ env.locals h1 (snap hh F₁) := fun p hp => N₁ p (List.mem_append.mpr (.inr hp))
    have hJ1 : J i F₁ h1 m₁ := keepJ _ _ _ _ _ hJ fun b hb o e => snap_get N₂ hb e
    obtain ⟨oI, eI⟩ := hSt _ _ hst' I hIf
    obtain ⟨l, hl1, hl2⟩ : ∃ l : Option (Addr × Obj), (∀ b, lo = some b → ∃ o, l = some (b, o)) ∧ ∀ p, l = some p → h1.get? p.1 = some p.2 ∧ lo = some p.1 := by
      cases hq : lo with
      | none => exact ⟨none, fun b hb => (nomatch hb), fun p hp => (nomatch hp)⟩
      | some b =>
        obtain ⟨o, e⟩ := hSt _ _ hst' b (hlo b hq)
        refine ⟨some (b, o), fun b' hb' => ⟨o, by rw [Option.some.inj hb']⟩, fun p hp => ?_⟩
        rw [← Option.some.inj hp]
        exact ⟨e, rfl⟩
    refine wpAny_mono (turn i v F₁ m₁ h1 tk1 oI l hin hP hJ1 hIF eI hl1 hl2 Fr₁) (fun f s₂ p => ?_) fun _ _ e => e
    have fin : (∃ h' tk' m' F', s₂ = { s with heap := h', toks := tk' } ∧ Fr h₀ env.locals h' m' ∧ J (i + 1) F' h' m' ∧ I ∉ F' ∧ h'.get? I = some oI ∧ ∀ p, l = some p → h'.get? p.1 = some p.2) → LoopStepU h₀ env.locals [I] own (J' (i + 1)) { s with heap := h1, toks := tk1 } .next s₂ := by
      rintro ⟨h', tk', m', F', e, Fr', hJ', hI', eI', el'⟩
      refine ⟨rfl, h', tk', m', snap h' F', e, Fr', fun p hp => ?_, fun p hp q => hI' ((List.mem_singleton.mp q) ▸ (mem_snap.mp hp).1), F', h', hJ', rfl, hI'⟩
      rcases List.mem_append.mp hp with hp | hp
      · have hz := (N₁ p (List.mem_append.mpr (.inl hp))).2
        refine ⟨?_, hz⟩
        have e0 := hownh p hp
        rcases hfl _ (hown p hp) with q | q | ⟨o, q⟩
        · rw [q] at e0 ⊢
          rw [eI'] ; rw [eI] at e0; exact e0
        · obtain ⟨o, ho⟩ := hl1 _ q
          have a1 := (hl2 _ ho).1
          have a2 := el' _ ho
          dsimp only at a1 a2 e0
          rw [a1] at e0
          rw [a2]; exact e0
        · rw [q] at hz; cases hz.2
      · exact news_snap (offJ _ _ _ _ hJ') p hp
    cases f with
    | ret v => exact .ret p
    | brk => exact .brk p
    | next => exact .next (fin p)
    | cont => exact .cont (fin p)
  · rintro h' tk m' nx F' N' _ ⟨F₁, hh, hJ, rfl, _⟩
    exact done h' tk m' F₁ (keepJ _ _ _ _ _ hJ fun b hb o e => snap_get N' hb e) F'
theorem each_range {r : Addr} {a₀ b₀ : Int} {t₀ u₀ v₀ : Tok} {n : Nat} {m₀ : Str → Option Value} (J : Nat → List Addr → Heap → (Str → Option Value) → Prop) (F₀ : List Addr)
    (keepJ : ∀ i F h h' m, J i F h m → (∀ b ∈ F, ∀ o, h.get? b = some o → h'.get? b = some o) → J i F h' m) (offJ : ∀ i F h m, J i F h m → Off h₀ env.locals F) (thJ : ∀ i F h m, J i F h m → ∀ b ∈ F, ∃ o, h.get? b = some o)
    (hh : A.handled = none) (hr : IsRange s.heap r a₀ b₀ 1 t₀ u₀ v₀) (hsmall : Builtin.Range.small a₀ b₀ 1 = true) (hn : Builtin.Range.rangeSize a₀ b₀ 1 = (n : Int)) (F : Fr h₀ env.locals s.heap m₀) (hj : J 0 F₀ s.heap m₀)
    (turn : ∀ i t F₁ m₁ h tk I oI, i < n → J i F₁ h m₁ → I ∉ F₁ → h.get? I = some oI → I ≠ env.locals → h₀.get? I = none → Fr h₀ env.locals h (fun y => if y = x then some (.int (a₀ + (i : Int)) t) else m₁ y) →
      wpAny (model prog w) A (execs body env) (EachPost h₀ env.locals I oI none (J (i + 1)) { s with heap := h, toks := tk } Q) E { s with heap := h, toks := tk })
    (done : ∀ h' tk m' F', J n F' h' m' → Fr h₀ env.locals h' m' → Q .next { s with heap := h', toks := tk }) :
    wpAny (model prog w) A (pyIter (.ref r)) (fun it s₂ => LoopAtV prog w A h₀ env x body Q E it s₂) E s := by
  refine wpAny_pyIter_range hr hsmall ?_
  have hne : s.heap.objs.size ≠ env.locals := fun e => Nat.lt_irrefl _ (e ▸ F.ns.lt)
  have hnew : h₀.get? s.heap.objs.size = none := next_is_new F
  have W : Walks prog w A s.heap.objs.size [s.heap.objs.size] [s.heap.objs.size] n (fun i v => i < n ∧ ∃ t, v = .int (a₀ + i * 1) t)
      (fun i h => IsRangeIter h s.heap.objs.size (a₀ + (i : Nat) * 1) ((n : Int) - (i : Nat)) 1) := (Walks.range hh _ a₀ 1 n).bound
  refine each_core J F₀ keepJ offJ W (fun h => hne (List.mem_singleton.mp h).symm) hnew (fun i h st b hb => ⟨_, (List.mem_singleton.mp hb) ▸ st⟩) (by show IsRangeIter _ _ _ _ _; rw [hn]; simpa using Heap.get?_push_size _ rfl) (F.push _) (keepJ _ _ _ _ _ hj fun b hb o e => Heap.get?_push_of_some _ e)
    (fun hb => ?_) none (fun b hb => .inl (List.mem_singleton.mp hb)) (fun b hb => (nomatch hb)) ?_ done
  · obtain ⟨o, e⟩ := thJ _ _ _ _ hj _ hb
    exact absurd (Heap.lt_size e) (Nat.lt_irrefl _)
  · rintro i v F₁ m₁ h tk oI l hi ⟨_, t, rfl⟩ hJ hIF eI hl1 hl2 Fr₁
    have e1 : a₀ + (i : Int) * 1 = a₀ + (i : Int) := by omega
    rw [e1] at Fr₁
    have hl : l = none := by
      cases l with
      | none => rfl
      | some p => exact absurd (hl2 p rfl).2 (by simp)
    subst hl
    exact turn i t F₁ m₁ h tk _ oI hi hJ hIF eI hne hnew Fr₁
theorem each_list {l : Addr} {vs : Array Value} {m₀ : Str → Option Value} (J : Nat → List Addr → Heap → (Str → Option Value) → Prop) (F₀ : List Addr)
    (keepJ : ∀ i F h h' m, J i F h m → (∀ b ∈ F, ∀ o, h.get? b = some o → h'.get? b = some o) → J i F h' m) (offJ : ∀ i F h m, J i F h m → Off h₀ env.locals F) (thJ : ∀ i F h m, J i F h m → ∀ b ∈ F, ∃ o, h.get? b = some o)
    (hh : A.handled = none) (hl : s.heap.IsList l vs) (hlL : l ≠ env.locals) (hl0 : h₀.get? l = none) (F : Fr h₀ env.locals s.heap m₀) (hj : J 0 F₀ s.heap m₀)
    (turn : ∀ i v F₁ m₁ h tk I oI ol, vs[i]? = some v → J i F₁ h m₁ → I ∉ F₁ → h.get? I = some oI → h.get? l = some ol → I ≠ env.locals → I ≠ l → h₀.get? I = none → Fr h₀ env.locals h (fun y => if y = x then some v else m₁ y) →
      wpAny (model prog w) A (execs body env) (EachPost h₀ env.locals I oI (some (l, ol)) (J (i + 1)) { s with heap := h, toks := tk } Q) E { s with heap := h, toks := tk })
    (done : ∀ h' tk m' F', J vs.size F' h' m' → Fr h₀ env.locals h' m' → Q .next { s with heap := h', toks := tk }) :
    wpAny (model prog w) A (pyIter (.ref l)) (fun it s₂ => LoopAtV prog w A h₀ env x body Q E it s₂) E s := by
  refine wpAny_pyIter_list hl ?_
  obtain ⟨ol0, el0, _⟩ := id hl
  have hlI : l ≠ s.heap.objs.size := Nat.ne_of_lt (Heap.lt_size el0)
  have hne : s.heap.objs.size ≠ env.locals := fun e => Nat.lt_irrefl _ (e ▸ F.ns.lt)
  have hnew : h₀.get? s.heap.objs.size = none := next_is_new F
  refine each_core J F₀ keepJ offJ (Walks.list hh s.heap.objs.size l hlI vs) (fun h => ?_) hnew (fun i h st b hb => ?_) ⟨⟨_, Heap.get?_push_size _ rfl, rfl, rfl⟩, hl.at fun o e => Heap.get?_push_of_some _ e⟩ (F.push _) (keepJ _ _ _ _ _ hj fun b hb o e => Heap.get?_push_of_some _ e)
    (fun hb => ?_) (some l) (fun b hb => ?_) (fun b hb => by rw [← Option.some.inj hb]; exact .tail _ (.head _)) ?_ done
  · rcases List.mem_cons.mp h with e | h
    · exact hne e.symm
    · exact hlL (List.mem_singleton.mp h).symm
  · rcases List.mem_cons.mp hb with e | h
    · obtain ⟨o, e1, _⟩ := st.1; exact ⟨o, e ▸ e1⟩
    · obtain ⟨o, e1, _⟩ := st.2; exact ⟨o, (List.mem_singleton.mp h) ▸ e1⟩
  · obtain ⟨o, e⟩ := thJ _ _ _ _ hj _ hb
    exact absurd (Heap.lt_size e) (Nat.lt_irrefl _)
  · rcases List.mem_cons.mp hb with e | h
    · exact .inl e
    · exact .inr (.inl (by rw [List.mem_singleton.mp h]))
  · rintro i v F₁ m₁ h tk oI lo hi hP hJ hIF eI hl1 hl2 Fr₁
    obtain ⟨ol, rfl⟩ := hl1 l rfl
    exact turn i v F₁ m₁ h tk _ oI ol hP hJ hIF eI (hl2 _ rfl).1 hne hlI.symm hnew Fr₁
theorem each_down {r : Addr} {a₀ b₀ : Int} {t₀ u₀ v₀ : Tok} {n : Nat} {m₀ : Str → Option Value} (J : Nat → List Addr → Heap → (Str → Option Value) → Prop) (F₀ : List Addr)
    (keepJ : ∀ i F h h' m, J i F h m → (∀ b ∈ F, ∀ o, h.get? b = some o → h'.get? b = some o) → J i F h' m) (offJ : ∀ i F h m, J i F h m → Off h₀ env.locals F) (thJ : ∀ i F h m, J i F h m → ∀ b ∈ F, ∃ o, h.get? b = some o)
    (hh : A.handled = none) (hr : IsRange s.heap r a₀ b₀ (-1) t₀ u₀ v₀) (hsmall : Builtin.Range.small a₀ b₀ (-1) = true) (hn : Builtin.Range.rangeSize a₀ b₀ (-1) = (n : Int)) (F : Fr h₀ env.locals s.heap m₀) (hj : J 0 F₀ s.heap m₀)
    (turn : ∀ i t F₁ m₁ h tk I oI, i < n → J i F₁ h m₁ → I ∉ F₁ → h.get? I = some oI → I ≠ env.locals → h₀.get? I = none → Fr h₀ env.locals h (fun y => if y = x then some (.int (a₀ - (i : Int)) t) else m₁ y) →
      wpAny (model prog w) A (execs body env) (EachPost h₀ env.locals I oI none (J (i + 1)) { s with heap := h, toks := tk } Q) E { s with heap := h, toks := tk })
    (done : ∀ h' tk m' F', J n F' h' m' → Fr h₀ env.locals h' m' → Q .next { s with heap := h', toks := tk }) :
    wpAny (model prog w) A (pyIter (.ref r)) (fun it s₂ => LoopAtV prog w A h₀ env x body Q E it s₂) E s := by
  refine wpAny_pyIter_range hr hsmall ?_
  have hne : s.heap.objs.size ≠ env.locals := fun e => Nat.lt_irrefl _ (e ▸ F.ns.lt)
  have hnew : h₀.get? s.heap.objs.size = none := next_is_new F
  have W : Walks prog w A s.heap.objs.size [s.heap.objs.size] [s.heap.objs.size] n (fun i v => i < n ∧ ∃ t, v = .int (a₀ + i * (-1)) t)
      (fun i h => IsRangeIter h s.heap.objs.size (a₀ + (i : Nat) * (-1)) ((n : Int) - (i : Nat)) (-1)) := (Walks.range hh _ a₀ (-1) n).bound
  refine each_core J F₀ keepJ offJ W (fun h => hne (List.mem_singleton.mp h).symm) hnew (fun i h st b hb => ⟨_, (List.mem_singleton.mp hb) ▸ st⟩) (by show IsRangeIter _ _ _ _ _; rw [hn]; simpa using Heap.get?_push_size _ rfl) (F.push _) (keepJ _ _ _ _ _ hj fun b hb o e => Heap.get?_push_of_some _ e)
    (fun hb => ?_) none (fun b hb => .inl (List.mem_singleton.mp hb)) (fun b hb => (nomatch hb)) ?_ done
  · obtain ⟨o, e⟩ := thJ _ _ _ _ hj _ hb
    exact absurd (Heap.lt_size e) (Nat.lt_irrefl _)
  · rintro i v F₁ m₁ h tk oI l hi ⟨_, t, rfl⟩ hJ hIF eI hl1 hl2 Fr₁
    have e1 : a₀ + (i : Int) * (-1) = a₀ - (i : Int) := by omega
    rw [e1] at Fr₁
    have hl : l = none := by
      cases l with
      | none => rfl
      | some p => exact absurd (hl2 p rfl).2 (by simp)
    subst hl
    exact turn i t F₁ m₁ h tk _ oI hi hJ hIF eI hne hnew Fr₁
theorem each_base {l : Addr} {vs : Array Value} {m₀ : Str → Option Value} (J : Nat → List Addr → Heap → (Str → Option Value) → Prop) (F₀ : List Addr)
    (keepJ : ∀ i F h h' m, J i F h m → (∀ b ∈ F, ∀ o, h.get? b = some o → h'.get? b = some o) → J i F h' m) (offJ : ∀ i F h m, J i F h m → Off h₀ env.locals F) (thJ : ∀ i F h m, J i F h m → ∀ b ∈ F, ∃ o, h.get? b = some o)
    (hh : A.handled = none) (hl : h₀.IsList l vs) (F : Fr h₀ env.locals s.heap m₀) (hj : J 0 F₀ s.heap m₀)
    (turn : ∀ i v F₁ m₁ h tk I oI, vs[i]? = some v → J i F₁ h m₁ → I ∉ F₁ → h.get? I = some oI → I ≠ env.locals → h₀.get? I = none → Fr h₀ env.locals h (fun y => if y = x then some v else m₁ y) →
      wpAny (model prog w) A (execs body env) (EachPost h₀ env.locals I oI none (J (i + 1)) { s with heap := h, toks := tk } Q) E { s with heap := h, toks := tk })
    (done : ∀ h' tk m' F', J vs.size F' h' m' → Fr h₀ env.locals h' m' → Q .next { s with heap := h', toks := tk }) :
    wpAny (model prog w) A (pyIter (.ref l)) (fun it s₂ => LoopAtV prog w A h₀ env x body Q E it s₂) E s := by
  have hls : s.heap.IsList l vs := hl.at fun o e => F.keep l o e
  refine wpAny_pyIter_list hls ?_
  obtain ⟨ol0, el0, _⟩ := id hl
  have hlI : l ≠ s.heap.objs.size := Nat.ne_of_lt (Heap.lt_size (F.keep _ _ el0))
  have hlL : env.locals ≠ l := fun e => by
    have := Heap.lt_size el0
    exact absurd (Nat.lt_of_lt_of_le this F.above) (e ▸ Nat.lt_irrefl _)
  have hne : s.heap.objs.size ≠ env.locals := fun e => Nat.lt_irrefl _ (e ▸ F.ns.lt)
  have hnew : h₀.get? s.heap.objs.size = none := next_is_new F
  refine each_core J F₀ keepJ offJ (Walks.list hh s.heap.objs.size l hlI vs) (fun h => ?_) hnew (fun i h st b hb => ?_) ⟨⟨_, Heap.get?_push_size _ rfl, rfl, rfl⟩, hls.at fun o e => Heap.get?_push_of_some _ e⟩ (F.push _) (keepJ _ _ _ _ _ hj fun b hb o e => Heap.get?_push_of_some _ e)
    (fun hb => ?_) none (fun b hb => ?_) (fun b hb => (nomatch hb)) ?_ done
  · rcases List.mem_cons.mp h with e | h
    · exact hne e.symm
    · exact hlL (List.mem_singleton.mp h)
  · rcases List.mem_cons.mp hb with e | h
    · obtain ⟨o, e1, _⟩ := st.1; exact ⟨o, e ▸ e1⟩
    · obtain ⟨o, e1, _⟩ := st.2; exact ⟨o, (List.mem_singleton.mp h) ▸ e1⟩
  · obtain ⟨o, e⟩ := thJ _ _ _ _ hj _ hb
    exact absurd (Heap.lt_size e) (Nat.lt_irrefl _)
  · rcases List.mem_cons.mp hb with e | h
    · exact .inl e
    · exact .inr (.inr ⟨ol0, by rw [List.mem_singleton.mp h]; exact el0⟩)
  · rintro i v F₁ m₁ h tk oI lo hi hP hJ hIF eI hl1 hl2 Fr₁
    have hl : lo = none := by
      cases lo with
      | none => rfl
      | some p => exact absurd (hl2 p rfl).2 (by simp)
    subst hl
    exact turn i v F₁ m₁ h tk _ oI hP hJ hIF eI hne hnew Fr₁
end
end
section
open PySem PySem.W PySem.Calls PyProof.Rows PyProof.V PySem.W.X
section
variable {prog : Program} {w : World} {A₀ : Around} {s : Shared} {K : Frag} {L : Addr} {h₀ base : Heap} {m mg mb : Str → Option Value} {news : List (Addr × Obj)} {p : Program} {loose : List Str} {mean : ExcName → Option Value}
theorem enterC {A : Around} {env : Env} {outer : List Env} {R : Result → Shared → Prop} {name qual : Str} {params : Arguments} {body : List Stmt} {scope : Scope} {dV kV doc pm cdv ct oc : Value} {an od : Option Addr} {osl : Array (Option Value)} {f : Addr} {args : Args} {binds : List (Str × Value)}
    (B : Below A₀ base outer h₀) (F : Fr h₀ L s.heap m) (X₀ : K.In h₀) (N : News h₀ L s.heap news) (T : Top p loose mean mg mb h₀) (hA : A.frames = some (env :: outer)) (hf : env.frame = some L) (hke : env.scope.kind = .function)
    (ho : K.lookup f = some ⟨oc, od, .func (fnOf name qual params body scope dV kV doc pm an cdv ct), osl⟩) (hcd : codeIn K cdv qual = true) (hroom : A.depth < recursionLimit)
    (hbind : BindsTo s (fnOf name qual params body scope dV kV doc pm an cdv ct) args binds) (hkind : (binds.all fun y => scope.names.lookup y.1 == some .local || scope.names.lookup y.1 == some .cell) = true)
    (hnd : ((cellsFrom 0 scope.names []).map (·.1)).Nodup)
    (h : ∀ g L' h₁ tk cells, Fr h₀ L g m → Fr g L' h₁ (bindL (envOfC qual scope L' f cdv).kindOf binds fun _ => none) → News g L' h₁ (cells ++ news) →
      CellsAre (bindC (envOfC qual scope L' f cdv).kindOf binds fun _ => none) (cellsFrom (L' + 1) scope.names []) cells → Below A base (env :: outer) g → K.In g → Top p loose mean mg mb g → (∀ p ∈ news, p.1 < L') → Hides s.heap news g →
      wpAny (model prog w) (A.deeper (envOfC qual scope L' f cdv)) (execs body (envOfC qual scope L' f cdv))
        (fun fl s' => LeaveK h₀ L m g R (match fl with | .ret v => v | _ => .none) s')
        (fun e s' => wpAny (model prog w) (A.deeper (envOfC qual scope L' f cdv)) (leaving (envOfC qual scope L' f cdv) e) (fun _ s'' => R (.error e) s'') (fun e' s'' => R (.error e') s'') s')
        { s with heap := h₁, toks := tk })
    (hco : scope.isCoroutine = false) (hgen : scope.isGenerator = false) (hk : scope.kind = .function) : codeAny (model prog w) A (.call (.ref f) args) R s := by
  obtain ⟨FG, BG, st, lv⟩ := groundX (R := R) B F N hA hf hke
  have X := X₀.keeps F.keep
  have hlim := T.nolimit
  refine codeAny_call_function hroom (X _ _ ho) rfl hco hgen rfl (codeRec_of X hcd) (hbind _ _ _ _ ?_)
  refine wpAny_newFunctionEnv_cells hk (kindsX hkind _) fun env' he s' x => ?_
  subst he
  refine ⟨(hlim.keeps F.keep).keeps x.toInCall.keep, codeAny_func ?_⟩
  obtain ⟨h₁, tk, rfl, _⟩ := x.done
  have hk₁ := x.toInCall.keep
  obtain ⟨cells, NC, Y⟩ := Cl.news (h₀ := s.heap) (Nat.le_refl _) fun n c hm => ⟨x.cell n c (lookup_of_mem_nodup (cellsFrom_names scope.names 0 (s.heap.objs.size + 1) [] [] rfl ▸ hnd) hm), x.above n c hm⟩
  have HD : Hides s.heap news (hideAll s.heap (news.map (·.1))) :=
    ⟨fun b o e n => hideAll_get _ e fun q => by obtain ⟨x, hx, rfl⟩ := List.mem_map.mp q; exact n x hx rfl, fun b o e => of_hideAll _ e, hideAll_size _ _, fun x hx => (N x hx).1⟩
  refine wpAny_mono (h _ s.heap.objs.size h₁ tk cells FG ⟨x.toInCall.ns, fun b o e => hk₁ b o (of_hideAll _ e), Nat.le_of_eq (hideAll_size _ _)⟩ (fun p hp => ?_) Y BG (X₀.keeps st) (T.keeps st) (fun p hp => Heap.lt_size (N p hp).1) HD) (fun fl s' hl => lv _ _ hl) fun _ _ y => y
  rcases List.mem_append.mp hp with hp | hp
  · refine ⟨(NC p hp).1, (NC p hp).2.1, ?_⟩
    cases q : (hideAll s.heap (news.map (·.1))).get? p.1 with
    | none => rfl
    | some o => have := of_hideAll _ q; rw [(NC p hp).2.2] at this; cases this
  · exact ⟨hk₁ _ _ (N p hp).1, Nat.ne_of_lt (Heap.lt_size (N p hp).1), hideAll_none _ (List.mem_map_of_mem hp)⟩
end
end
section
open PySem PySem.W PySem.Calls PyProof.Rows PyProof.V PySem.W.X
set_option linter.unusedVariables false
theorem said_RowG_1 : True := by
  k_with_none
  (k_with "m binaryOp Add str str" => (k_here; (with_reducible show wpAny _ _ (binaryOp Operator.Add (Value.str _ _) (Value.str _ _)) _ _ _); (refine' PyProof.Rows.add_str ?hh ?hsz; (case hsz => (have e1 := litA; have e2 := litB; have e3 := sz_line; (try rw [StrLaws.length_append]); omega)); intro t9 k9)))
  (k_with "m k_room" => first | k_dflt exact room_lt (k := 1) hdp rfl | k_dflt exact room_lt (k := 2) hdp rfl | k_dflt exact room_lt (k := 3) hdp rfl | k_dflt exact room_lt (k := 4) hdp rfl | k_dflt exact room_lt (k := 0) hdp rfl | decide | ((try simp only [depth_mark, depth_under_make, depth_under_kw, depth_in1, depth_deeper, depth_caller]); (try dsimp only [ktrTop]); (show (_ : Nat) < 1000); omega))
  (k_with "m k_units" => first | k_dflt exact unit_lt (k := 0) hun rfl | k_dflt exact unit_lt (k := 1) hun rfl | k_dflt exact unit_lt (k := 2) hun rfl | exact Nat.le_of_ble_eq_true rfl | ((try simp only [units_in1, units_deeper, Around.mark_units, units_caller]); (try dsimp only [ktrTop]); (show (_ : Nat) < 9900); omega))
  (k_with "m M enter" => (refine wpAny_call ?_; k_dflt (refine' enter ?k1 ?k2 ?k3 ?k4 ?k5 ?kA ?kF ?kK ?k6 ?k7 ?k8 ?k9 ?kB ?_ ?c2 ?c3 ?c4 ?c5; (case kA => exact rfl); (case kF => exact rfl); (case kK => first | assumption | exact rfl); (case k1 => k_asm); (case k2 => k_asm); (case k3 => k_asm); (case k4 => k_asm); (case k5 => k_asm); (case k6 => k_is); (case k7 => k_is); (case k8 => (show (_ : Nat) < 1000; dsimp only; omega)); (case k9 => exact BindsTo.of_eq rfl); (case c5 => decide); (case kB => exact locs rfl); (case c2 => exact rfl); (case c3 => exact rfl); (case c4 => exact rfl); k_whole)))
  (k_with "m M room" => first | k_dflt exact room_le (k := 1) hdp rfl | k_dflt exact room_le (k := 0) hun rfl | k_dflt exact room_le (k := 1) hun rfl | k_dflt exact room_le (k := 2) hdp rfl | k_dflt exact room_le (k := 0) hdp rfl | ((try simp only [depth_mark, depth_under_make, depth_under_kw, depth_in1, depth_deeper, depth_caller, units_in1, units_deeper, Around.mark_units, units_caller]); (try dsimp only [ktrTop]); omega))
  (k_with "m k_all" => with_reducible assumption)
  (k_with "m exec For Name Subscript cons nil" => (k_here; (rename Fr _ _ _ _ => lF'); (with_unfolding_all refine' For_invVF lF' rfl rfl ?_); k_whole))
  (k_with "m pyIter ref" => (k_here; refine stopN ?_))
  (k_with "m call builtin:list.append" => (k_here; (with_reducible show wpAny _ _ (call (Value.builtin _) [Value.ref _, _]) _ _ _); k_dflt (refine' append_K ?k1 ?k2 ?k3 ?_ ?z; (case k1 => k_asm); (case k2 => k_asm); (case k3 => k_upd); (case z => assumption); k_whole); intro h' F' N'))
  trivial
theorem put_at {x : Str} {v : Int} : ∀ {E : List Ent} {k : Nat} {z : Int} {b : Bool}, E[k]? = some (x, z, b) → (∀ j < k, ∀ q, E[j]? = some q → q.1 ≠ x) → putE x v E = E.set k (x, v, b)
  | [], k, z, b, h, _ => by simp at h
  | (y, u, c) :: E, 0, z, b, h, _ => by
    simp only [List.getElem?_cons_zero, Option.some.injEq, Prod.mk.injEq] at h
    obtain ⟨rfl, rfl, rfl⟩ := h
    unfold putE; rw [if_pos rfl]; rfl
  | (y, u, c) :: E, k + 1, z, b, h, n => by
    unfold putE
    rw [if_neg (n 0 (Nat.succ_pos _) (y, u, c) rfl), put_at (k := k) (by simpa using h) fun j hj q hq => n (j + 1) (Nat.succ_lt_succ hj) q (by simpa using hq)]
    rfl
theorem set_same {α : Type} {a : α} : ∀ {l : List α} {k : Nat}, l[k]? = some a → l.set k a = l
  | [], _, h => by simp at h
  | b :: l, 0, h => by simp only [List.getElem?_cons_zero, Option.some.injEq] at h; rw [h]; rfl
  | b :: l, k + 1, h => congrArg (b :: ·) (set_same (k := k) (by simpa using h))
theorem nodup_key {α : Type} {l : List (Addr × α)} (n : (l.map (·.1)).Nodup) {p q : Addr × α} (hp : p ∈ l) (hq : q ∈ l) (e : p.1 = q.1) : p = q := by
  induction l with
  | nil => cases hp
  | cons a l ih =>
    rw [List.map_cons, List.nodup_cons] at n
    rcases List.mem_cons.mp hp with e1 | hp1
    · rcases List.mem_cons.mp hq with e2 | hq1
      · exact e1.trans e2.symm
      · exact absurd (e1 ▸ e ▸ List.mem_map_of_mem hq1) n.1
    · rcases List.mem_cons.mp hq with e2 | hq1
      · exact absurd (e2 ▸ e ▸ List.mem_map_of_mem hp1) n.1
      · exact ih n.2 hp1 hq1
theorem put_no {x : Str} {v : Int} : ∀ {E : List Ent}, look x E = none → putE x v E = E ++ [(x, v, false)]
  | [], _ => rfl
  | (y, u, c) :: E, h => by
    unfold look at h
    by_cases q : y = x
    · rw [if_pos q] at h; cases h
    · rw [if_neg q] at h
      unfold putE
      rw [if_neg q, put_no h]
      rfl
theorem bindR_lk {E : List Ent} {x : Str} {v z : Int} {c : Bool} (h : look x E = some (z, true)) : bindR E c x v = (some (lockedMsg x), E) := by unfold bindR; rw [h]
theorem bindR_set {E : List Ent} {x : Str} {v z : Int} {c : Bool} {k : Nat} (h : look x E = some (z, false)) (hk : E[k]? = some (x, z, false)) (n : ∀ j < k, ∀ q, E[j]? = some q → q.1 ≠ x) : bindR E c x v = (none, E.set k (x, v, false)) := by unfold bindR; rw [h, put_at hk n]
theorem bindR_shut {E : List Ent} {x : Str} {v : Int} (h : look x E = none) : bindR E true x v = (some addMsg, E) := by unfold bindR; rw [h]; rfl
theorem bindR_new {E : List Ent} {x : Str} {v : Int} (h : look x E = none) : bindR E false x v = (none, E ++ [(x, v, false)]) := by unfold bindR; rw [h, put_no h]; rfl
theorem allLt_mem {d : Addr} : ∀ {l : List (Addr × Obj)}, AllLt d l → ∀ p ∈ l, @LT.lt Nat _ p.1 d
  | [], _, _, h => nomatch h
  | _ :: _, a, p, h => by
    rcases List.mem_cons.mp h with e | h
    · exact e ▸ a.1
    · exact allLt_mem a.2 p h
theorem keep_same {h g h' : Heap} {L' : Addr} {m' : Str → Option Value} {led : List (Addr × Obj)} {A : List Addr} (HD : Hides h led g) (hled : led = snap h A) (F' : Fr g L' h' m') (sm : ∀ b ∈ A, ∀ o, h.get? b = some o → h'.get? b = some o) : Keep h [] h' :=
  Keep.of_stays fun b o e => by
    by_cases q : b ∈ A
    · exact sm b q o e
    · exact F'.keep _ _ (HD.get b o e fun p hp z => q (by rw [hled] at hp; exact z ▸ (mem_snap.mp hp).1))
theorem row_set {R : RP} {h h' : Heap} {k : Nat} {e : Addr} {y : Str} {z v : Int} {b c : Bool} {t u : Tok} {n : Nat} (S : RowSt R h) (hp : R.D[k]? = some (e, (y, z, b))) (hE : h'.get? e = some (PySem.W.listOf #[.str y t, .int v u, .bool c] n))
    (hk : ∀ b ∈ R.foot, b ≠ e → ∀ o, h.get? b = some o → h'.get? b = some o) (K : Keep h R.foot h') : RowTo h R (R.E.set k (y, v, c)) { R with D := R.D.set k (e, (y, v, c)) } h' := by
  have hf : (R.D.set k (e, (y, v, c))).map (·.1) = R.D.map (·.1) := by
    rw [List.map_set]
    exact set_same (by rw [List.getElem?_map, hp]; rfl)
  have hfoot : (RP.mk R.r R.l (R.D.set k (e, (y, v, c))) R.c).foot = R.foot := by unfold RP.foot; rw [hf]
  have hm : (e, (y, z, b)) ∈ R.D := List.mem_of_getElem? hp
  have off := S.off _ hm
  obtain ⟨n0, e0⟩ := S.row
  obtain ⟨n1, e1⟩ := S.lst
  refine ⟨⟨⟨n0, hk _ (.head _) off.1.symm _ e0⟩, ⟨n1, ?_⟩, fun p hp' => ?_, hfoot ▸ S.apart⟩, rfl, rfl, by unfold RP.E; rw [List.map_set], K, fun b hb => .inl (hfoot ▸ hb)⟩
  · have e2 : ((R.D.set k (e, (y, v, c))).map fun p => Value.ref p.1) = R.D.map fun p => Value.ref p.1 := by
      have := congrArg (List.map Value.ref) hf
      rwa [List.map_map, List.map_map] at this
    rw [e2]
    exact hk _ (.tail _ (.head _)) off.2.symm _ e1
  · by_cases q : p.1 = e
    · have : p = (e, (y, v, c)) := by
        have nd : ((R.D.set k (e, (y, v, c))).map (·.1)).Nodup := by
          have := S.apart
          unfold RP.foot at this
          rw [hf]
          exact (List.nodup_cons.mp (List.nodup_cons.mp this).2).2
        have hlt : k < R.D.length := by
          rcases Nat.lt_or_ge k R.D.length with q | q
          · exact q
          · rw [List.getElem?_eq_none q] at hp; cases hp
        exact nodup_key nd hp' (List.mem_of_getElem? (i := k) (by rw [List.getElem?_set_self hlt])) q
      rw [this]
      exact ⟨t, u, n, hE⟩
    · have hp2 : p ∈ R.D := by
        rcases List.mem_or_eq_of_mem_set hp' with z | z
        · exact z
        · exact absurd (by rw [z]) q
      obtain ⟨t', u', n', e'⟩ := S.ents p hp2
      exact ⟨t', u', n', hk _ (.tail _ (.tail _ (List.mem_map_of_mem hp2))) q _ e'⟩
theorem row_new {R : RP} {h h' : Heap} {e : Addr} {y : Str} {v : Int} {c : Bool} {t u : Tok} {n n1 : Nat} (S : RowSt R h) (hE : h'.get? e = some (PySem.W.listOf #[.str y t, .int v u, .bool c] n)) (he : h.get? e = none)
    (hl : h'.get? R.l = some (PySem.W.listOf ((R.D.map fun p => Value.ref p.1).toArray.push (.ref e)) n1)) (hk : ∀ b ∈ R.foot, b ≠ R.l → ∀ o, h.get? b = some o → h'.get? b = some o) (K : Keep h R.foot h') :
    RowTo h R (R.E ++ [(y, v, c)]) { R with D := R.D ++ [(e, (y, v, c))] } h' := by
  have hfoot : (RP.mk R.r R.l (R.D ++ [(e, (y, v, c))]) R.c).foot = R.foot ++ [e] := by simp [RP.foot]
  have hne : ∀ b ∈ R.foot, b ≠ e := fun b hb q => by
    obtain ⟨o, ho⟩ := S.there b hb
    rw [q, he] at ho; cases ho
  have ap := S.apart
  unfold RP.foot at ap
  rw [List.nodup_cons, List.nodup_cons] at ap
  obtain ⟨n0, e0⟩ := S.row
  refine ⟨⟨⟨n0, hk _ (.head _) (fun q => ap.1 (q ▸ .head _)) _ e0⟩, ⟨n1, ?_⟩, fun p hp => ?_, ?_⟩, rfl, rfl, by simp [RP.E], K, fun b hb => ?_⟩
  · rw [hl]; simp
  · rcases List.mem_append.mp hp with hp | hp
    · obtain ⟨t', u', n', e'⟩ := S.ents p hp
      exact ⟨t', u', n', hk _ (.tail _ (.tail _ (List.mem_map_of_mem hp))) (fun q => ap.2.1 (q ▸ List.mem_map_of_mem hp)) _ e'⟩
    · rw [List.mem_singleton.mp hp]; exact ⟨t, u, n, hE⟩
  · rw [hfoot, List.nodup_append]
    exact ⟨S.apart, by simp, fun a ha b hb => by rw [List.mem_singleton.mp hb]; exact hne a ha⟩
  · rw [hfoot] at hb
    rcases List.mem_append.mp hb with hb | hb
    · exact .inl hb
    · rw [List.mem_singleton.mp hb]; exact .inr he
theorem row_rl {R : RP} {h : Heap} (S : RowSt R h) : R.r ≠ R.l := by
  have ap := S.apart
  unfold RP.foot at ap
  rw [List.nodup_cons] at ap
  exact fun q => ap.1 (q ▸ .head _)
theorem bindR_set' {E : List Ent} {x y : Str} {v z : Int} {b c : Bool} {k : Nat} (e : y = x) (hb : b = false) (h : look x E = some (z, b)) (hk : E[k]? = some (y, z, b)) (n : ∀ j < k, ∀ q, E[j]? = some q → q.1 ≠ x) : bindR E c x v = (none, E.set k (y, v, b)) := by
  subst e hb
  exact bindR_set h hk n
theorem row_at {R : RP} {h : Heap} {kk : Nat} {v' : Value} {C : Prop} (hv : (R.D.map fun p => Value.ref p.1).toArray[kk]? = some v') (S : RowSt R h)
    (k : ∀ (e : Addr) (y : Str) (z : Int) (b : Bool) (t' u' : Tok) (n' : Nat), R.D[kk]? = some (e, (y, z, b)) → (e, (y, z, b)) ∈ R.D → e ∈ R.foot → h.get? e = some (PySem.W.listOf #[.str y t', .int z u', .bool b] n') → R.E[kk]? = some (y, z, b) → v' = .ref e → C) : C := by
  obtain ⟨⟨e, y, z, b⟩, hp, hve⟩ : ∃ p, R.D[kk]? = some p ∧ Value.ref p.1 = v' := by
    simp only [List.getElem?_toArray, List.getElem?_map] at hv
    exact Option.map_eq_some_iff.mp hv
  have hpD := List.mem_of_getElem? hp
  obtain ⟨t', u', n', ep⟩ := S.ents _ hpD
  exact k e y z b t' u' n' hp hpD (.tail _ (.tail _ (List.mem_map_of_mem (f := fun p => p.1) hpD))) ep (by unfold RP.E; rw [List.getElem?_map, hp]; rfl) hve.symm
section
variable {w : World} {mean : ExcName → Option Value} {mg mb : Str → Option Value} {dp un : Nat} {gd : Option (List Code)} {cn : Str} {cs : Scope} {a : Addr} {ccd : Value} {cl : List (Str × Addr)} {outer : List Env} {A₀ : Around} {base h₀ : Heap} {L : Addr} {m : Str → Option Value} {s : Shared} {Q E : Value → Shared → Prop}
  {x : Str} {tx : Tok} {v : Int} {tv : Tok} {R : RP}
set_option maxRecDepth 100000 in
set_option maxHeartbeats 8000000 in
theorem bind_spec
   (B : Below A₀ base outer h₀) (F : Fr h₀ L s.heap m) (X : (hd.heap_39 w.params).In h₀) (T : Top VW LO mean mg mb h₀) (hk : cs.kind = .function) (hdp : dp ≤ 385) (hun : un ≤ 885)
   (S : RowSt R s.heap) (O : Off h₀ L R.foot) (hl : R.D.length ≤ 3) (hxl : x.length ≤ 100)
   (k : ∀ h' tk' t R', Fr h₀ L h' m → RowTo s.heap R (bindR R.E R.c x v).2 R' h' → Q (.str ((bindR R.E R.c x v).1.getD (Str.ofString "")) t) { s with heap := h', toks := tk' })
   : wpAny (model PR w) (ktrTop dp un gd cn cs L a ccd cl outer) (call (.ref 152) [.ref R.r, .str x tx, .int v tv]) Q E s := by
  refine Exists.elim (⟨_, rfl⟩ : ∃ led, led = snap s.heap R.foot) fun led hled => ?_
  have N : News h₀ L s.heap led := hled ▸ news_snap O
  walk_at "M enter"
  intro g h₁ FG F' N' B' X' T' HD
  refine S.row.elim fun n0 e0 => S.lst.elim fun n1 e1 => ?_
  have up : ∀ b o, b ∈ R.foot → s.heap.get? b = some o → h₁.get? b = some o ∧ b ≠ s.heap.objs.size ∧ g.get? b = none := fun b o hb eb => N' (b, o) (hled ▸ mem_snap.mpr ⟨hb, eb⟩)
  have N2 : News g s.heap.objs.size h₁ ((R.r, PySem.W.listOf #[.ref R.l, .bool R.c] n0) :: (R.l, PySem.W.listOf (R.D.map fun p => Value.ref p.1).toArray n1) :: led) := nc (up _ _ (.head _) e0) (nc (up _ _ (.tail _ (.head _)) e1) N')
  have offF : Off g s.heap.objs.size R.foot := fun b hb => by
    obtain ⟨o, ho⟩ := S.there b hb
    exact (up b o hb ho).2
  clear N' N
  try dsimp only
  try k_fold
  k_steps
  unfold StopN
  try dsimp only
  rename Fr g _ _ _ => f9
  rename News g _ _ _ => n9
  refine each_list (vs := (R.D.map fun p => Value.ref p.1).toArray) (fun kk F h M => F = R.foot ∧ (∀ b ∈ R.foot, ∀ o, s.heap.get? b = some o → h.get? b = some o) ∧ M (Str.ofString "row") = some (.ref R.r) ∧ M (Str.ofString "name") = some (.str x tx) ∧ M (Str.ofString "value") = some (.int v tv) ∧ ∀ j' < kk, ∀ q, R.E[j']? = some q → q.1 ≠ x) R.foot
    (fun kk F h h' M hJ hk => ⟨hJ.1, fun b hb o ho => hk b (hJ.1 ▸ hb) o (hJ.2.1 b hb o ho), hJ.2.2⟩) (fun kk F h M hJ => hJ.1 ▸ offF) (fun kk F h M hJ b hb => by obtain ⟨o, ho⟩ := S.there b (hJ.1 ▸ hb); exact ⟨o, hJ.2.1 b (hJ.1 ▸ hb) o ho⟩) rfl ⟨_, (n9 _ (.tail _ (.head _))).1, rfl, _, rfl⟩ (offF _ (.tail _ (.head _))).1 (offF _ (.tail _ (.head _))).2 f9
    ⟨rfl, fun b hb o ho => (n9 (b, o) (.tail _ (.tail _ (hled ▸ mem_snap.mpr ⟨hb, ho⟩)))).1, rfl, rfl, rfl, fun j' a => absurd a (Nat.not_lt_zero _)⟩ ?_ ?_
  · intro kk v' F₁ M h2 tk2 I oI ol hv hJ hIF eI eol hIL hIl hI0 Fr₁
    have hF := hJ.1
    have q1 := hJ.2.1
    have hq := hJ.2.2.2.2.2
    refine row_at hv S fun e y z b t' u' n' hp hpD he ep hpE hve => ?_
    rw [map3 hJ.2.2.1 hJ.2.2.2.1 hJ.2.2.2.2.1, hve] at Fr₁
    rw [hF] at hIF
    clear hJ hv hve
    have offI : Off g s.heap.objs.size (I :: R.foot) := fun b hb => by
      rcases List.mem_cons.mp hb with rfl | hb
      · exact ⟨hIL, hI0⟩
      · exact offF b hb
    refine Exists.elim (⟨_, rfl⟩ : ∃ tl, tl = rest h2 (I :: R.foot) [e]) fun tl etl => ?_
    have N9 : News g s.heap.objs.size h2 ((e, PySem.W.listOf #[.str y t', .int z u', .bool b] n') :: tl) := nc ⟨q1 _ he _ ep, offF _ he⟩ (etl ▸ rest_news offI)
    have htl : ∀ p ∈ tl, p.1 ≠ e := etl ▸ rest_ne (.head _)
    have oth : ∀ h' X', News g s.heap.objs.size h' ((e, X') :: tl) → ∀ b ∈ R.foot, b ≠ e → ∀ o, s.heap.get? b = some o → h'.get? b = some o := fun h' X' n b hb hne o ho =>
      rest_get (A := [e]) (etl ▸ n) (fun p hp => .tail _ hp) b (.tail _ hb) (by simpa using hne) o (q1 b hb o ho)
    have same : ∀ h', News g s.heap.objs.size h' ((e, PySem.W.listOf #[.str y t', .int z u', .bool b] n') :: tl) → ∀ b ∈ R.foot, ∀ o, s.heap.get? b = some o → h'.get? b = some o := fun h' n c hc o ho => by
      by_cases q : c = e
      · rw [q] at ho ⊢
        rw [ep] at ho
        rw [← Option.some.inj ho]; exact (n _ (.head _)).1
      · exact oth h' _ n c hc q o ho
    have lv : ∀ h' X', News g s.heap.objs.size h' ((e, X') :: tl) → ∀ b ∈ R.foot, ∃ o, h'.get? b = some o := fun h' X' n c hc => by
      by_cases q : c = e
      · exact ⟨_, q ▸ (n _ (.head _)).1⟩
      · obtain ⟨o, ho⟩ := S.there c hc
        exact ⟨o, oth h' _ n c hc q o ho⟩
    clear f9 n9 up
    k_steps
    · rename (y == x) = true => hy
      rename b = true => hb
      have hlk := look_at hpE hq (eq_of_beq hy)
      rename Fr g _ _ _ => f7
      rename News g _ _ _ => n7
      dsimp only [EachPost]
      k_steps
      exact bc_bad k (bindR_lk (hlk.trans (by rw [hb]))) (by k_asm) S (keep_same HD hled (by assumption) (same _ n7))
    · rename (y == x) = true => hy
      rename b = false => hb
      have hyx := eq_of_beq hy
      have hlk := look_at hpE hq hyx
      rename Fr g _ _ _ => f7
      rename News g _ _ _ => n7
      dsimp only [EachPost]
      k_steps
      exact bc_ok k (bindR_set' hyx hb hlk hpE hq) (by k_asm) (row_set S hp (n7 _ (.head _)).1 (oth _ _ n7) (keep_foot HD hled f7 (lv _ _ n7)))
    · rename (y == x) = false => hy
      dsimp only
      refine ⟨_, _, _, _, rfl, Fr₁, ⟨rfl, q1, rfl, rfl, rfl, fun j' hj' q hq' => ?_⟩, hIF, eI, fun p hp => by rw [← Option.some.inj hp]; exact eol⟩
      rcases Nat.lt_or_ge j' kk with c | c
      · exact hq j' c q hq'
      · rw [show j' = kk by omega, hpE] at hq'
        rw [← Option.some.inj hq']
        intro q; dsimp only at q; rw [q] at hy; simp at hy
  · intro h' tk' m' F' hJ Fr'
    dsimp only
    have q1 := hJ.2.1
    have hq := hJ.2.2.2.2.2
    refine Exists.elim (⟨_, rfl⟩ : ∃ tl, tl = rest h' R.foot [R.r, R.l]) fun tl etl => ?_
    have N9 : News g s.heap.objs.size h' ((R.r, PySem.W.listOf #[.ref R.l, .bool R.c] n0) :: (R.l, PySem.W.listOf (R.D.map fun p => Value.ref p.1).toArray n1) :: tl) := nc ⟨q1 _ (.head _) _ e0, offF _ (.head _)⟩ (nc ⟨q1 _ (.tail _ (.head _)) _ e1, offF _ (.tail _ (.head _))⟩ (etl ▸ rest_news offF))
    have htl : ∀ p ∈ tl, p.1 ≠ R.l := etl ▸ rest_ne (.tail _ (.head _))
    have hrl : R.r ≠ R.l := row_rl S
    have hsz : (R.D.map fun p => Value.ref p.1).toArray.size ≤ sizeLine := by
      rw [List.size_toArray, List.length_map, sizeLine_eq]; omega
    rw [map3 hJ.2.2.1 hJ.2.2.2.1 hJ.2.2.2.2.1] at Fr'
    have hno : look x R.E = none := look_no fun j' hj' q hq' => hq j' (by simpa [RP.E] using hj') q hq'
    have kr : ∀ b ∈ R.foot, b ≠ R.r → b ≠ R.l → ∀ o, s.heap.get? b = some o → (b, o) ∈ tl := fun b hb h1 h2 o ho => etl ▸ List.mem_filter.mpr ⟨mem_snap.mpr ⟨hb, q1 b hb o ho⟩, by simp [h1, h2]⟩
    clear f9 n9 up hJ
    k_steps
    · rename R.c = true => hc
      exact bc_bad k (by rw [hc]; exact bindR_shut hno) (by k_asm) S (keep_same HD hled Fr' q1)
    · rename R.c = false => hc
      rename Fr g _ _ _ => f7
      rename News g _ _ _ => n7
      rename (_ < _ ∧ _ < _ ∧ AllLt _ _) => l7
      have oth : ∀ b ∈ R.foot, b ≠ R.l → ∀ o, s.heap.get? b = some o → h'.get? b = some o := fun b hb hne o ho => by
        by_cases q : b = R.r
        · rw [q, e0] at ho
          rw [q, ← Option.some.inj ho]; exact (n7 _ (.tail _ (.head _))).1
        · exact (n7 (b, o) (.tail _ (.tail _ (.tail _ (kr b hb q hne o ho))))).1
      refine bc_ok k (by rw [hc]; exact bindR_new hno) (by k_asm) (row_new S (n7 _ (.head _)).1 (fresh_of HD n7 (.head _) fun q => ?_) (n7 _ (.tail _ (.tail _ (.head _)))).1 oth (keep_foot HD hled f7 fun b hb => ?_))
      · obtain ⟨⟨c, o⟩, hp, q⟩ := List.mem_map.mp q
        rw [hled] at hp
        obtain ⟨hc1, hc2⟩ := mem_snap.mp hp
        dsimp only at q hc1 hc2
        by_cases q1 : c = R.r
        · exact Nat.lt_irrefl _ ((q1.symm.trans q) ▸ l7.1)
        by_cases q2 : c = R.l
        · exact Nat.lt_irrefl _ ((q2.symm.trans q) ▸ l7.2.1)
        · have z := allLt_mem l7.2.2 _ (kr c hc1 q1 q2 o hc2)
          exact Nat.lt_irrefl _ (q ▸ z)
      · by_cases q : b = R.l
        · exact ⟨_, q ▸ (n7 _ (.tail _ (.tail _ (.head _)))).1⟩
        · obtain ⟨o, ho⟩ := S.there b hb
          exact ⟨o, oth b hb q o ho⟩
end
end
section
open PySem PySem.W PySem.Calls PyProof.Rows PyProof.V PySem.W.X
structure TestIs (t : Ent → Bool) : Prop where
  on : True
abbrev TestIs.test {t : Ent → Bool} (_ : TestIs t) : Ent → Bool := t
noncomputable def itemOf (p : Ent) (t u : Tok) : Array Value := #[.str p.1 t, .int p.2.1 u, .bool p.2.2]
noncomputable def Ents (g : Heap) (D : List (Addr × Ent)) : Prop := ∀ p ∈ D, ∃ t u n, g.get? p.1 = some (PySem.W.listOf #[.str p.2.1 t, .int p.2.2.1 u, .bool p.2.2.2] n)
theorem Ents.up {g h : Heap} {D : List (Addr × Ent)} (x : Ents g D) (k : ∀ b o, g.get? b = some o → h.get? b = some o) : Ents h D := fun p hp => let ⟨t, u, n, e⟩ := x p hp; ⟨t, u, n, k _ _ e⟩
theorem Ents.sub {g : Heap} {D D' : List (Addr × Ent)} (x : Ents g D) (k : ∀ p ∈ D', p ∈ D) : Ents g D' := fun p hp => x p (k p hp)
noncomputable def refs (D : List (Addr × Ent)) : List Value := D.map fun p => Value.ref p.1
section
variable {prog : Program} {w : World} {A : Around} {E : Value → Shared → Prop} {s : Shared} {h₀ : Heap} {L : Addr} {m : Str → Option Value} {env : Env}
theorem comp_turns {ct elt : Expr} {y : Str} {scope : Scope} {cl : List (Str × Addr)} {S : List (Addr × Obj) → Prop} {Fin : List Value → List (Addr × Obj) → Prop} {news : List (Addr × Obj)} {its : Array Value} (test : Ent → Bool) (hS : S news)
    {D₀ : List (Addr × Ent)} (B : Ents h₀ D₀)
    (ht : ∀ p ∈ D₀, ∀ I oI C oC D m₂ h tk ys (E' : Value → Shared → Prop) (Q' : Bool → Shared → Prop) t u, LCg.NsObj oC m₂ → m₂ y = some (.ref p.1) → Fr h₀ L h m → News h₀ L h ((I, oI) :: (C, oC) :: (D, LCg.lst ys) :: news) → h.IsList p.1 #[.str p.2.1 t, .int p.2.2.1 u, .bool p.2.2.2] →
      (∀ tk', Q' (test p.2) { s with heap := h, toks := tk' }) → wpAny (model prog w) A (isTrue ct (compEnvC scope cl C env) (eval ct (compEnvC scope cl C env))) Q' E' { s with heap := h, toks := tk })
    (he : ∀ p ∈ D₀, ∀ I oI C oC D m₂ h tk ys (E' : Value → Shared → Prop) (Q' : Value → Shared → Prop), LCg.NsObj oC m₂ → m₂ y = some (.ref p.1) → Fr h₀ L h m → News h₀ L h ((I, oI) :: (C, oC) :: (D, LCg.lst ys) :: news) →
      (∀ tk', Q' (.ref p.1) { s with heap := h, toks := tk' }) → wpAny (model prog w) A (eval elt (compEnvC scope cl C env)) Q' E' { s with heap := h, toks := tk }) :
    ∀ (D : List (Addr × Ent)) (i : Nat) (ys : List Value), (∀ p ∈ D, p ∈ D₀) → (∀ j p, D[j]? = some p → its[i + j]? = some (.ref p.1)) → Fin (ys ++ refs (D.filter fun p => test p.2)) news →
      LCt.CompRestT prog w A h₀ L m env ct elt y scope cl s S (fun i v => its[i]? = some v) Fin D.length i ys news
  | [], i, ys, _, _, hf => LCt.CompRestT.zero (by simpa [refs] using hf)
  | p :: D, i, ys, hm, hi, hf => by
    refine LCt.CompRestT.succ fun v I oI C oC Dl m₂ h tk E' hv hC hx F N off ne => ?_
    have h0 := hi 0 p rfl
    rw [Nat.add_zero] at h0
    have hv' : v = .ref p.1 := Option.some.inj (hv.symm.trans h0)
    subst hv'
    have hp := hm p (.head _)
    obtain ⟨t, u, n, e⟩ := B p hp
    have rest := fun ys (hf : Fin (ys ++ refs (D.filter fun p => test p.2)) news) => comp_turns (Fin := Fin) test hS B ht he D (i + 1) ys (fun q hq => hm q (.tail _ hq)) (fun j q hq => by
      have := hi (j + 1) q (by simpa using hq)
      rwa [Nat.add_assoc, Nat.add_comm 1 j]) hf
    refine ht p hp I oI C oC Dl m₂ h tk ys E' _ t u hC hx F N ⟨_, F.keep _ _ e, rfl, n, rfl⟩ fun tk' => ?_
    cases q : test p.2 with
    | true =>
      rw [if_pos rfl]
      refine he p hp I oI C oC Dl m₂ h tk' ys E' _ hC hx F N fun tk'' => ?_
      refine LCg.CompEnd.intro F N news (fun _ z => z) off hS (rest _ ?_)
      rw [List.filter_cons_of_pos (by simpa using q)] at hf
      simpa [refs] using hf
    | false =>
      rw [if_neg (by simp)]
      refine LCg.CompEnd.intro F N news (fun _ z => z) off hS (rest _ ?_)
      rw [List.filter_cons_of_neg (by simp [q])] at hf
      exact hf
end
noncomputable def entD (p : Ent) : PyData := .list [.str p.1, .int p.2.1, .bool p.2.2]
theorem ents_reads {h : Heap} : ∀ {D : List (Addr × Ent)}, Ents h D → ∃ fp, ReadsAll h (refs D) (D.map fun p => entD p.2) fp
  | [], _ => ⟨_, ReadsAll.nil⟩
  | p :: D, x => by
    obtain ⟨t, u, n, e⟩ := x p (.head _)
    obtain ⟨fp, r⟩ := ents_reads (D := D) fun q hq => x q (.tail _ hq)
    exact ⟨_, ReadsAll.cons (reads_list_at e rfl rfl (ReadsAll.cons (Reads.str _ _) (ReadsAll.cons (Reads.int _ _) (ReadsAll.cons (Reads.bool _) ReadsAll.nil)))) r⟩
theorem ents_canLay : ∀ {D : List (Addr × Ent)}, (∀ p ∈ D, PyData.strOk p.2.1 = true) → PyData.canLayAll0 (D.map fun p => entD p.2) = true
  | [], _ => rfl
  | p :: D, x => by
    simp only [List.map_cons, PyData.canLayAll0, entD, PyData.canLay0, Bool.and_true, Bool.and_eq_true]
    exact ⟨x p (.head _), ents_canLay fun q hq => x q (.tail _ hq)⟩
theorem ents_depth : ∀ (D : List (Addr × Ent)), PyData.depthAll (D.map fun p => entD p.2) ≤ 1
  | [] => by simp [PyData.depthAll]
  | p :: D => by
    have := ents_depth D
    have e : (entD p.2).depth = 1 := by simp [entD, PyData.depth, PyData.depthAll]
    rw [List.map_cons, PyData.depthAll, e]
    omega
theorem ne_empty {prog : Program} {w : World} {A : Around} {E : Value → Shared → Prop} {s : Shared} {Q : Value → Shared → Prop} {a b : Addr} {D : List (Addr × Ent)} {n n' : Nat} (B : Ents s.heap D) (sok : ∀ p ∈ D, PyData.strOk p.2.1 = true) (ha : s.heap.get? a = some (PySem.W.listOf (refs D).toArray n)) (hb : s.heap.get? b = some (PySem.W.listOf #[] n'))
    (hu : A.units + 64 < cLine) (h : Q (.bool !D.isEmpty) s) : wpAny (model prog w) A (compareOp .NotEq (.ref a) (.ref b)) Q E s := by
  obtain ⟨fp, r⟩ := ents_reads B
  refine ne_dataH (reads_list_at ha rfl rfl (by simpa using r)) (reads_list_at hb rfl rfl ReadsAll.nil) ?_ rfl hu ?_
  · have := ents_depth D
    simp only [SeqAt.shaped, PyData.canLay0, ents_canLay sok, PyData.depth, Bool.true_and]
    exact decide_eq_true (by omega)
  · cases D with
    | nil => exact h
    | cons p D => exact h
theorem refs_at {D : List (Addr × Ent)} (j : Nat) (p : Addr × Ent) (h : D[j]? = some p) : (refs D).toArray[0 + j]? = some (.ref p.1) := by
  rw [Nat.zero_add, List.getElem?_toArray, refs, List.getElem?_map, h]; rfl
section
variable {prog : Program} {w : World} {A : Around} {h₀ : Heap} {L : Addr} {m : Str → Option Value} {env : Env}
theorem comp_src {ct elt : Expr} {y : Str} {scope : Scope} {cl : List (Str × Addr)} {Fin : Shared → List Value → List (Addr × Obj) → Prop} {ax : Addr} {k : Nat} {news : List (Addr × Obj)} {s₁ : Shared} {D : List (Addr × Ent)} (test : Ent → Bool)
    (hh : A.handled = none) (F : Fr h₀ L s₁.heap m) (N : News h₀ L s₁.heap news) (hm : (ax, PySem.W.listOf (refs D).toArray k) ∈ news) (hsz : D.length ≤ 100) (B : Ents h₀ D)
    (ht : ∀ g', ∀ p ∈ D, ∀ I oI C oC D m₂ h tk ys (E' : Value → Shared → Prop) (Q' : Bool → Shared → Prop) t u, LCg.NsObj oC m₂ → m₂ y = some (.ref p.1) → Fr h₀ L h m → News h₀ L h ((I, oI) :: (C, oC) :: (D, LCg.lst ys) :: news) → h.IsList p.1 #[.str p.2.1 t, .int p.2.2.1 u, .bool p.2.2.2] →
      (∀ tk', Q' (test p.2) { ({ s₁ with heap := g' } : Shared) with heap := h, toks := tk' }) → wpAny (model prog w) A (isTrue ct (compEnvC scope cl C env) (eval ct (compEnvC scope cl C env))) Q' E' { ({ s₁ with heap := g' } : Shared) with heap := h, toks := tk })
    (he : ∀ g', ∀ p ∈ D, ∀ I oI C oC D m₂ h tk ys (E' : Value → Shared → Prop) (Q' : Value → Shared → Prop), LCg.NsObj oC m₂ → m₂ y = some (.ref p.1) → Fr h₀ L h m → News h₀ L h ((I, oI) :: (C, oC) :: (D, LCg.lst ys) :: news) →
      (∀ tk', Q' (.ref p.1) { ({ s₁ with heap := g' } : Shared) with heap := h, toks := tk' }) → wpAny (model prog w) A (eval elt (compEnvC scope cl C env)) Q' E' { ({ s₁ with heap := g' } : Shared) with heap := h, toks := tk })
    (fin : ∀ g', Fin { s₁ with heap := g' } (refs (D.filter fun p => test p.2)) news) : LCt.CompSrcT prog w A h₀ L m env ct elt y scope cl Fin (.ref ax) s₁ := by
  have sz : (refs D).toArray.size = D.length := by simp [refs]
  refine LCt.CompSrcT.ledger hh F N hm (by rw [sz, sz_line]; omega) fun g' => ?_
  rw [sz]
  exact comp_turns test (.inr ⟨_, hm, rfl, _, rfl⟩) B (ht g') (he g') D 0 [] (fun _ h => h) refs_at (by simpa using fin g')
end
theorem has_filter (x : Str) (R : RP) : has x R.E = !(R.D.filter fun p => p.2.1 == x).isEmpty := by
  obtain ⟨r, l, D, c⟩ := R
  unfold RP.E
  induction D with
  | nil => rfl
  | cons p D ih =>
    obtain ⟨e, y, v, b⟩ := p
    by_cases q : y = x
    · simp [has, look, q]
    · have q' : (y == x) = false := by simpa using q
      simpa [has, look, q, q'] using ih
section
variable {R : RP} {h₀ h g h' : Heap} {L L' : Addr} {m m' : Str → Option Value} {led led' : List (Addr × Obj)} {n n0 n1 : Nat} {x : Str} {D' : List (Addr × Ent)} {d : Addr}
theorem to_take (S : RowSt R h) (HD : Hides h led g) (F' : Fr g L' h' m') (N' : News g L' h' led') (hl : led.map (·.1) = [R.r, R.l]) (mB : Ents g R.D) (sub : D'.Sublist R.D)
    (h1 : (R.r, PySem.W.listOf #[.ref d, .bool R.c] n0) ∈ led') (h2 : (d, LCg.lst (refs D')) ∈ led') (h3 : R.l ∈ led'.map (·.1)) (hr : d ≠ R.r) (hl' : d ≠ R.l) : RowTo h R (D'.map (·.2)) ⟨R.r, d, D', R.c⟩ h' := by
  have z := N' _ h2
  have hd0 : g.get? d = none := z.2.2
  have fr : h.get? d = none := fresh_of HD N' (List.mem_map_of_mem h2) (by rw [hl]; simp [hr, hl'])
  have inn : ∀ p ∈ led, p.1 = R.r ∨ p.1 = R.l := fun p hp => by
    have : p.1 ∈ led.map (·.1) := List.mem_map_of_mem hp
    rw [hl] at this; simpa using this
  refine ⟨⟨⟨n0, (N' _ h1).1⟩, ⟨_, z.1⟩, fun p hp => ?_, ?_⟩, rfl, rfl, rfl, keep_of2 HD F' N' _ (fun p hp => .inl ?_) (fun p hp => ?_), fun b hb => ?_⟩
  · obtain ⟨t, u, n, e⟩ := mB p (sub.subset hp)
    exact ⟨t, u, n, F'.keep _ _ e⟩
  · have ap := S.apart
    unfold RP.foot at ap ⊢
    rw [List.nodup_cons, List.nodup_cons] at ap
    have ss : (D'.map (·.1)).Sublist (R.D.map (·.1)) := sub.map _
    rw [List.nodup_cons, List.nodup_cons]
    refine ⟨fun hm => ?_, fun hm => ?_, ss.nodup ap.2.2⟩
    · rcases List.mem_cons.mp hm with e | hm
      · exact hr e.symm
      · exact ap.1 (.tail _ (ss.subset hm))
    · obtain ⟨p, hp, e⟩ := List.mem_map.mp hm
      obtain ⟨t, u, n, q⟩ := mB p (sub.subset hp)
      rw [show d = p.1 from e.symm, q] at hd0; cases hd0
  · rcases inn p hp with e | e
    · rw [e]; exact .head _
    · rw [e]; exact .tail _ (.head _)
  · rcases inn p hp with e | e
    · rw [e]; exact List.mem_map_of_mem h1
    · rw [e]; exact h3
  · rcases List.mem_cons.mp hb with rfl | hb
    · exact .inl (.head _)
    rcases List.mem_cons.mp hb with rfl | hb
    · exact .inr fr
    · exact .inl (.tail _ (.tail _ ((sub.map _).subset hb)))
theorem delE_filter (x : Str) (D : List (Addr × Ent)) : delE x (D.map (·.2)) = (D.filter fun p => !(p.2.1 == x)).map (·.2) := by
  unfold delE
  rw [List.filter_map]
  congr 1
theorem rl_news {R : RP} {h₀ h : Heap} {L : Addr} (S : RowSt R h) (O : Off h₀ L [R.r, R.l]) : ∃ n0 n1, News h₀ L h [(R.r, PySem.W.listOf #[.ref R.l, .bool R.c] n0), (R.l, PySem.W.listOf (refs R.D).toArray n1)] := by
  obtain ⟨n0, h0⟩ := S.row
  obtain ⟨n1, h1⟩ := S.lst
  exact ⟨n0, n1, nc ⟨h0, O _ (.head _)⟩ (nc ⟨h1, O _ (.tail _ (.head _))⟩ News.nil)⟩
theorem rl_ents {R : RP} {a b : Obj} (S : RowSt R h) (HD : Hides h [(R.r, a), (R.l, b)] g) : Ents g R.D := fun p hp => by
  obtain ⟨t, u, n, e⟩ := S.ents p hp
  refine ⟨t, u, n, HD.get _ _ e fun q hq z => ?_⟩
  simp only [List.mem_cons, List.not_mem_nil, or_false] at hq
  rcases hq with rfl | rfl
  · exact (S.off p hp).1 z.symm
  · exact (S.off p hp).2 z.symm
theorem rl_ne {R : RP} (S : RowSt R h) : @Ne Nat R.r R.l := fun e => by have ap := S.apart; unfold RP.foot at ap; rw [show R.r = R.l from e] at ap; simp at ap
end
end
section
open PySem PySem.W PySem.Calls PyProof.Rows PyProof.V PySem.W.X
set_option linter.unusedVariables false
theorem said_Has_1 : True := by
  k_with_none
  (k_with "m binaryOp Add str str" => (k_here; (with_reducible show wpAny _ _ (binaryOp Operator.Add (Value.str _ _) (Value.str _ _)) _ _ _); (refine' PyProof.Rows.add_str ?hh ?hsz; (case hsz => (have e1 := litA; have e2 := litB; have e3 := sz_line; (try rw [StrLaws.length_append]); omega)); intro t9 k9)))
  (k_with "m k_room" => first | k_dflt exact room_lt (k := 1) hdp rfl | k_dflt exact room_lt (k := 2) hdp rfl | k_dflt exact room_lt (k := 3) hdp rfl | k_dflt exact room_lt (k := 4) hdp rfl | k_dflt exact room_lt (k := 0) hdp rfl | decide | ((try simp only [depth_mark, depth_under_make, depth_under_kw, depth_in1, depth_deeper, depth_caller]); (try dsimp only [ktrTop]); (show (_ : Nat) < 1000); omega))
  (k_with "m k_units" => first | k_dflt exact unit_lt (k := 0) hun rfl | k_dflt exact unit_lt (k := 1) hun rfl | k_dflt exact unit_lt (k := 2) hun rfl | exact Nat.le_of_ble_eq_true rfl | ((try simp only [units_in1, units_deeper, Around.mark_units, units_caller]); (try dsimp only [ktrTop]); (show (_ : Nat) < 9900); omega))
  (k_with "m exec Raise some none" => (k_here; k_dflt (refine' raise_own ?hh ?_; (case hh => exact rfl))))
  (k_with "m call ref" => (k_here; (with_reducible show wpAny _ _ (call (Value.ref 44) [Value.str _ _]) _ _ _); (rename Fr _ _ _ _ => mF); k_dflt ((refine mk_K (by k_asm) mF (by k_asm) (by k_asm) (by (show (_ : Nat) ≤ 400; dsimp only; omega)) ?_); intro e dx t h' tk hh tm n F' N' st e1 e2 ne X'; (refine ⟨_, _, _, rfl, (N' _ (List.Mem.head _)).1, X', ?_⟩); (try k_unfold); (try dsimp only); (refine leave_refused (by k_asm) mF e1 e2 F' (N' _ (List.Mem.head _)).1 (N' _ (List.Mem.tail _ (List.Mem.head _))).1 (by first | assumption | exact stays_of (by assumption) mF (by k_asm)) st (by assumption) ?_ (by rfl)); intro h9 R9; (try dsimp only))))
  (k_with "m setItem ref str" => (k_here; k_dflt (refine' setItem_K PyProof.V.same_str (strKind_is _ _ _ _) ?v ?F ?N ?U ?d ?f ?_ ?z; (case F => k_asm); (case N => k_asm); (case U => k_updF); (case d => k_asm); (case f => k_asm); (case z => assumption); (case v => k_flat)); intro h' o' F' N' hd' hf'; (try dsimp only at N'); (try k_sweep)))
  (k_with "m M enter" => (refine wpAny_call ?_; k_dflt (refine' enter ?k1 ?k2 ?k3 ?k4 ?k5 ?kA ?kF ?kK ?k6 ?k7 ?k8 ?k9 ?kB ?_ ?c2 ?c3 ?c4 ?c5; (case kA => exact rfl); (case kF => exact rfl); (case kK => first | assumption | exact rfl); (case k1 => k_asm); (case k2 => k_asm); (case k3 => k_asm); (case k4 => k_asm); (case k5 => k_asm); (case k6 => k_is); (case k7 => k_is); (case k8 => (show (_ : Nat) < 1000; dsimp only; omega)); (case k9 => exact BindsTo.of_eq rfl); (case c5 => decide); (case kB => exact locs rfl); (case c2 => exact rfl); (case c3 => exact rfl); (case c4 => exact rfl); k_whole)))
  (k_with "m delItem ref str" => (k_here; k_dflt (refine' kt_del_K PyProof.V.same_str (strKind_is _ _ _ _) ?F ?N ?U ?d ?f ?l ?_ ?z; (case F => k_asm); (case N => k_asm); (case U => k_updF); (case d => k_asm); (case f => k_asm); (case l => first | with_reducible assumption | rfl); (case z => assumption)); intro h' o' F' N' hd' hf'; try dsimp only at N'))
  (k_with "m M room" => first | k_dflt exact room_le (k := 1) hdp rfl | k_dflt exact room_le (k := 0) hun rfl | k_dflt exact room_le (k := 1) hun rfl | k_dflt exact room_le (k := 2) hdp rfl | k_dflt exact room_le (k := 0) hdp rfl | ((try simp only [depth_mark, depth_under_make, depth_under_kw, depth_in1, depth_deeper, depth_caller, units_in1, units_deeper, Around.mark_units, units_caller]); (try dsimp only [ktrTop]); omega))
  (k_with "m exec For Name Subscript cons nil" => (k_here; (rename Fr _ _ _ _ => lF'); (with_unfolding_all refine' For_turns lF' ?_; k_whole)))
  (k_with "m M enterC" => (refine wpAny_call ?_; k_dflt (refine' enterC ?k1 ?k2 ?k3 ?k4 ?k5 ?kA ?kF ?kK ?k6 ?k7 ?k8 ?k9 ?kB ?kD ?_ ?c2 ?c3 ?c4; (case kA => exact rfl); (case kF => exact rfl); (case kK => first | assumption | exact rfl); (case k1 => k_asm); (case k2 => k_asm); (case k3 => k_asm); (case k4 => k_asm); (case k5 => k_asm); (case k6 => k_is); (case k7 => k_is); (case k8 => (show (_ : Nat) < 1000; dsimp only; omega)); (case k9 => exact BindsTo.of_eq rfl); (case kB => exact rfl); (case kD => decide +kernel); (case c2 => exact rfl); (case c3 => exact rfl); (case c4 => exact rfl); k_whole)))
  (k_with "m eval ListComp" => (k_here; k_dflt (refine LCt.ListComp_T (F₀ := by k_asm) (by with_unfolding_all rfl) (by decide) (by rfl) (by decide) (by rfl) ?_)))
  (k_with "m CompSrcT" => (k_here; (rename Ents _ _ => mB); (rename TestIs _ => mX); k_dflt (refine' comp_src (TestIs.test mX) ?c1 ?c2 ?c3 ?c4 ?c5 mB ?_ ?_ ?_; (case c1 => exact rfl); (case c2 => k_asm); (case c3 => k_asm); (case c4 => k_mem); (case c5 => assumption)); (all_goals first | (intro g9 p9 hp9 I9 oI9 C9 oC9 D9 m9 h9 tk9 ys9 E9 Q9 t9 u9 hC9 hx9 F9 N9 hL9 hQ9; (try dsimp only)) | (intro g9 p9 hp9 I9 oI9 C9 oC9 D9 m9 h9 tk9 ys9 E9 Q9 hC9 hx9 F9 N9 hQ9; (try dsimp only)) | (intro g9; (try dsimp only)))))
  (k_with "m compareOp NotEq ref ref" => (k_here; (with_reducible show wpAny _ _ (compareOp CmpOp.NotEq (Value.ref _) (Value.ref _)) _ _ _); (rename Ents _ _ => mB); (rename Fr _ _ _ _ => mF); (rename News _ _ _ _ => mN); k_dflt (refine' ne_empty ?n1 ?n2 ?n3 ?n4 ?n5 ?_; (case n3 => exact (mN (_, _) (by k_mem)).1); (case n4 => exact (mN (_, _) (by k_mem)).1); (case n1 => exact Ents.sub (Ents.up mB (Fr.keep mF)) fun p hp => (List.mem_filter.mp hp).1); (case n2 => (rename ∀ p ∈ _, PyData.strOk _ = true => mK; exact fun p hp => mK p (List.mem_filter.mp hp).1)); (case n5 => ((try simp only [units_in1, units_deeper, Around.mark_units, units_caller]); (try dsimp only [ktrTop]); (show (_ : Nat) + 64 < 9900); omega)))))
  trivial
section
variable {w : World} {mean : ExcName → Option Value} {mg mb : Str → Option Value} {dp un : Nat} {gd : Option (List Code)} {cn : Str} {cs : Scope} {a : Addr} {ccd : Value} {cl : List (Str × Addr)} {outer : List Env} {A₀ : Around} {base h₀ : Heap} {L : Addr} {m : Str → Option Value} {s : Shared} {Q E : Value → Shared → Prop}
  {x : Str} {tx : Tok} {v : Int} {tv : Tok} {R : RP} {r l e1 e2 e3 : Addr} {x1 x2 x3 : Str} {v1 v2 v3 : Int} {b1 b2 b3 c : Bool}
set_option maxRecDepth 100000 in
set_option maxHeartbeats 8000000 in
theorem has_spec
   (B : Below A₀ base outer h₀) (F : Fr h₀ L s.heap m) (X : (hd.heap_39 w.params).In h₀) (T : Top VW LO mean mg mb h₀) (hk : cs.kind = .function) (hdp : dp ≤ 390) (hun : un ≤ 900)
   (S : RowSt R s.heap) (O : Off h₀ L [R.r, R.l]) (sok : ∀ p ∈ R.D, PyData.strOk p.2.1 = true) (hlen : R.D.length ≤ 100)
   (k : ∀ h' tk', Fr h₀ L h' m → Keep s.heap [] h' → Q (.bool (has x R.E)) { s with heap := h', toks := tk' })
   : wpAny (model PR w) (ktrTop dp un gd cn cs L a ccd cl outer) (call (.ref 157) [.ref R.r, .str x tx]) Q E s := by
  obtain ⟨n0, n1, N⟩ := rl_news S O
  have d1 := rl_ne S
  clear O
  walk_at "M enterC"
  intro g L9 h₁ tk9 cells FG F' N' Y' B' X' T' l9 HD
  have mB : Ents g R.D := rl_ents S HD
  k_lt l9
  k_cells Y'
  try simp only [List.cons_append, List.nil_append] at N'
  try dsimp only
  k_lift B'
  try k_fold
  clear S
  have mX : TestIs (fun p => p.1 == x) := ⟨trivial⟩
  k_steps
  · exact hQ9 _
  · exact hQ9 _
  · rename News g _ _ _ => n9
    rename Fr g _ _ _ => f9
    exact hs_close k (has_filter x R) (by k_asm) (keep0 HD f9 n9 (by lcg_sub))
end
end
section
open PySem PySem.W PySem.Calls PyProof.Rows PyProof.V PySem.W.X
set_option linter.unusedVariables false
theorem said_Take_1 : True := by
  k_with_none
  (k_with "m binaryOp Add str str" => (k_here; (with_reducible show wpAny _ _ (binaryOp Operator.Add (Value.str _ _) (Value.str _ _)) _ _ _); (refine' PyProof.Rows.add_str ?hh ?hsz; (case hsz => (have e1 := litA; have e2 := litB; have e3 := sz_line; (try rw [StrLaws.length_append]); omega)); intro t9 k9)))
  (k_with "m k_room" => first | k_dflt exact room_lt (k := 1) hdp rfl | k_dflt exact room_lt (k := 2) hdp rfl | k_dflt exact room_lt (k := 3) hdp rfl | k_dflt exact room_lt (k := 4) hdp rfl | k_dflt exact room_lt (k := 0) hdp rfl | decide | ((try simp only [depth_mark, depth_under_make, depth_under_kw, depth_in1, depth_deeper, depth_caller]); (try dsimp only [ktrTop]); (show (_ : Nat) < 1000); omega))
  (k_with "m k_units" => first | k_dflt exact unit_lt (k := 0) hun rfl | k_dflt exact unit_lt (k := 1) hun rfl | k_dflt exact unit_lt (k := 2) hun rfl | exact Nat.le_of_ble_eq_true rfl | ((try simp only [units_in1, units_deeper, Around.mark_units, units_caller]); (try dsimp only [ktrTop]); (show (_ : Nat) < 9900); omega))
  (k_with "m exec Raise some none" => (k_here; k_dflt (refine' raise_own ?hh ?_; (case hh => exact rfl))))
  (k_with "m call ref" => (k_here; (with_reducible show wpAny _ _ (call (Value.ref 44) [Value.str _ _]) _ _ _); (rename Fr _ _ _ _ => mF); k_dflt ((refine mk_K (by k_asm) mF (by k_asm) (by k_asm) (by (show (_ : Nat) ≤ 400; dsimp only; omega)) ?_); intro e dx t h' tk hh tm n F' N' st e1 e2 ne X'; (refine ⟨_, _, _, rfl, (N' _ (List.Mem.head _)).1, X', ?_⟩); (try k_unfold); (try dsimp only); (refine leave_refused (by k_asm) mF e1 e2 F' (N' _ (List.Mem.head _)).1 (N' _ (List.Mem.tail _ (List.Mem.head _))).1 (by first | assumption | exact stays_of (by assumption) mF (by k_asm)) st (by assumption) ?_ (by rfl)); intro h9 R9; (try dsimp only))))
  (k_with "m setItem ref str" => (k_here; k_dflt (refine' setItem_K PyProof.V.same_str (strKind_is _ _ _ _) ?v ?F ?N ?U ?d ?f ?_ ?z; (case F => k_asm); (case N => k_asm); (case U => k_updF); (case d => k_asm); (case f => k_asm); (case z => assumption); (case v => k_flat)); intro h' o' F' N' hd' hf'; (try dsimp only at N'); (try k_sweep)))
  (k_with "m M enter" => (refine wpAny_call ?_; k_dflt (refine' enter ?k1 ?k2 ?k3 ?k4 ?k5 ?kA ?kF ?kK ?k6 ?k7 ?k8 ?k9 ?kB ?_ ?c2 ?c3 ?c4 ?c5; (case kA => exact rfl); (case kF => exact rfl); (case kK => first | assumption | exact rfl); (case k1 => k_asm); (case k2 => k_asm); (case k3 => k_asm); (case k4 => k_asm); (case k5 => k_asm); (case k6 => k_is); (case k7 => k_is); (case k8 => (show (_ : Nat) < 1000; dsimp only; omega)); (case k9 => exact BindsTo.of_eq rfl); (case c5 => decide); (case kB => exact locs rfl); (case c2 => exact rfl); (case c3 => exact rfl); (case c4 => exact rfl); k_whole)))
  (k_with "m delItem ref str" => (k_here; k_dflt (refine' kt_del_K PyProof.V.same_str (strKind_is _ _ _ _) ?F ?N ?U ?d ?f ?l ?_ ?z; (case F => k_asm); (case N => k_asm); (case U => k_updF); (case d => k_asm); (case f => k_asm); (case l => first | with_reducible assumption | rfl); (case z => assumption)); intro h' o' F' N' hd' hf'; try dsimp only at N'))
  (k_with "m M room" => first | k_dflt exact room_le (k := 1) hdp rfl | k_dflt exact room_le (k := 0) hun rfl | k_dflt exact room_le (k := 1) hun rfl | k_dflt exact room_le (k := 2) hdp rfl | k_dflt exact room_le (k := 0) hdp rfl | ((try simp only [depth_mark, depth_under_make, depth_under_kw, depth_in1, depth_deeper, depth_caller, units_in1, units_deeper, Around.mark_units, units_caller]); (try dsimp only [ktrTop]); omega))
  (k_with "m exec For Name Subscript cons nil" => (k_here; (rename Fr _ _ _ _ => lF'); (with_unfolding_all refine' For_turns lF' ?_; k_whole)))
  (k_with "m M enterC" => (refine wpAny_call ?_; k_dflt (refine' enterC ?k1 ?k2 ?k3 ?k4 ?k5 ?kA ?kF ?kK ?k6 ?k7 ?k8 ?k9 ?kB ?kD ?_ ?c2 ?c3 ?c4; (case kA => exact rfl); (case kF => exact rfl); (case kK => first | assumption | exact rfl); (case k1 => k_asm); (case k2 => k_asm); (case k3 => k_asm); (case k4 => k_asm); (case k5 => k_asm); (case k6 => k_is); (case k7 => k_is); (case k8 => (show (_ : Nat) < 1000; dsimp only; omega)); (case k9 => exact BindsTo.of_eq rfl); (case kB => exact rfl); (case kD => decide +kernel); (case c2 => exact rfl); (case c3 => exact rfl); (case c4 => exact rfl); k_whole)))
  (k_with "m eval ListComp" => (k_here; k_dflt (refine LCt.ListComp_T (F₀ := by k_asm) (by with_unfolding_all rfl) (by decide) (by rfl) (by decide) (by rfl) ?_)))
  (k_with "m CompSrcT" => (k_here; (rename Ents _ _ => mB); (rename TestIs _ => mX); k_dflt (refine' comp_src (TestIs.test mX) ?c1 ?c2 ?c3 ?c4 ?c5 mB ?_ ?_ ?_; (case c1 => exact rfl); (case c2 => k_asm); (case c3 => k_asm); (case c4 => k_mem); (case c5 => assumption)); (all_goals first | (intro g9 p9 hp9 I9 oI9 C9 oC9 D9 m9 h9 tk9 ys9 E9 Q9 t9 u9 hC9 hx9 F9 N9 hL9 hQ9; (try dsimp only)) | (intro g9 p9 hp9 I9 oI9 C9 oC9 D9 m9 h9 tk9 ys9 E9 Q9 hC9 hx9 F9 N9 hQ9; (try dsimp only)) | (intro g9; (try dsimp only)))))
  (k_with "m compareOp NotEq ref ref" => (k_here; (with_reducible show wpAny _ _ (compareOp CmpOp.NotEq (Value.ref _) (Value.ref _)) _ _ _); (rename Ents _ _ => mB); (rename Fr _ _ _ _ => mF); (rename News _ _ _ _ => mN); k_dflt (refine' ne_empty ?n1 ?n2 ?n3 ?n4 ?n5 ?_; (case n3 => exact (mN (_, _) (by k_mem)).1); (case n4 => exact (mN (_, _) (by k_mem)).1); (case n1 => exact Ents.sub (Ents.up mB (Fr.keep mF)) fun p hp => (List.mem_filter.mp hp).1); (case n2 => (rename ∀ p ∈ _, PyData.strOk _ = true => mK; exact fun p hp => mK p (List.mem_filter.mp hp).1)); (case n5 => ((try simp only [units_in1, units_deeper, Around.mark_units, units_caller]); (try dsimp only [ktrTop]); (show (_ : Nat) + 64 < 9900); omega)))))
  (k_with "m call ref" => (k_here; (with_reducible show wpAny _ _ (call (Value.ref 157) [_, _]) _ _ _); (rename Fr _ _ _ _ => mF); (rename News _ _ _ _ => mN); (rename RowSt _ _ => mR); (rename Off _ _ _ => mO); k_dflt (refine' has_spec (R := RowSt.rp mR) ?k1 ?k2 ?k3 ?k4 ?hk ?hdp ?hun ?k5 ?k6 ?k7 ?k8 ?_; (case k1 => k_asm); (case k2 => exact mF); (case k3 => k_asm); (case k4 => k_asm); (case k5 => exact mR); (case k6 => exact mO); (case k7 => assumption); (case k8 => assumption); (case hk => exact rfl); (case hdp => walk_at "M room"); (case hun => walk_at "M room"); (intro h' tk' F' K'; (have N' := News.grown mN (Keep.nil K')); (try k_fold)))))
  trivial
theorem takeR_no {E : List Ent} {c : Bool} {x : Str} (a : has x E = false) : takeR E c x = (none, E) := by
  unfold has at a; unfold takeR
  cases q : look x E with
  | none => rfl
  | some _ => rw [q] at a; cases a
theorem takeR_yes {E : List Ent} {c : Bool} {x : Str} (a : has x E = true) : takeR E c x = if c then (some (some delMsg), E) else (some none, delE x E) := by
  unfold has at a; unfold takeR
  cases q : look x E with
  | none => rw [q] at a; cases a
  | some _ => rfl
section
variable {R R' : RP} {h₀ h' : Heap} {L : Addr} {m : Str → Option Value} {s : Shared} {Q : Value → Shared → Prop} {tk : Nat} {x : Str} {tt : Tok}
theorem tk_no (k : ∀ h' tk' t R', Fr h₀ L h' m → RowTo s.heap R (takeR R.E R.c x).2 R' h' → Q (.str (takeW R.E R.c x) t) { s with heap := h', toks := tk' }) (a : has x R.E = false) (F : Fr h₀ L h' m) (S : RowSt R s.heap) (K : Keep s.heap [] h') :
    Q (.str (Str.ofString "no") tt) { s with heap := h', toks := tk } := by
  have := k h' tk tt R F (by rw [takeR_no a]; exact RowTo.same S K)
  unfold takeW at this
  rw [takeR_no a] at this
  exact this
theorem tk_bad (k : ∀ h' tk' t R', Fr h₀ L h' m → RowTo s.heap R (takeR R.E R.c x).2 R' h' → Q (.str (takeW R.E R.c x) t) { s with heap := h', toks := tk' }) (a : has x R.E = true) (c : R.c = true) (F : Fr h₀ L h' m) (S : RowSt R s.heap) (K : Keep s.heap [] h') :
    Q (.str delMsg tt) { s with heap := h', toks := tk } := by
  have := k h' tk tt R F (by rw [takeR_yes a, c]; exact RowTo.same S K)
  unfold takeW at this
  rw [takeR_yes a, c] at this
  exact this
theorem tk_yes (k : ∀ h' tk' t R', Fr h₀ L h' m → RowTo s.heap R (takeR R.E R.c x).2 R' h' → Q (.str (takeW R.E R.c x) t) { s with heap := h', toks := tk' }) (a : has x R.E = true) (c : R.c = false) (F : Fr h₀ L h' m)
    (to : RowTo s.heap R ((R.D.filter fun p => !(p.2.1 == x)).map (·.2)) R' h') : Q (.str (Str.ofString "yes") tt) { s with heap := h', toks := tk } := by
  have := k h' tk tt R' F (by rw [takeR_yes a, c]; exact delE_filter x R.D ▸ to)
  unfold takeW at this
  rw [takeR_yes a, c] at this
  exact this
end
section
variable {w : World} {mean : ExcName → Option Value} {mg mb : Str → Option Value} {dp un : Nat} {gd : Option (List Code)} {cn : Str} {cs : Scope} {a : Addr} {ccd : Value} {cl : List (Str × Addr)} {outer : List Env} {A₀ : Around} {base h₀ : Heap} {L : Addr} {m : Str → Option Value} {s : Shared} {Q E : Value → Shared → Prop}
  {x : Str} {tx : Tok} {v : Int} {tv : Tok} {R : RP} {r l e1 e2 e3 : Addr} {x1 x2 x3 : Str} {v1 v2 v3 : Int} {b1 b2 b3 c : Bool}
theorem has_keeps {h h' : Heap} {R : RP} (S : RowSt R h) (K : Keep h [] h') : RowSt R h' := S.keep fun b _ o e => K.nil b o e
set_option maxRecDepth 100000 in
set_option maxHeartbeats 8000000 in
theorem take_spec
   (B : Below A₀ base outer h₀) (F : Fr h₀ L s.heap m) (X : (hd.heap_39 w.params).In h₀) (T : Top VW LO mean mg mb h₀) (hk : cs.kind = .function) (hdp : dp ≤ 380) (hun : un ≤ 880)
   (S : RowSt R s.heap) (O : Off h₀ L [R.r, R.l]) (sok : ∀ p ∈ R.D, PyData.strOk p.2.1 = true) (hlen : R.D.length ≤ 100)
   (k : ∀ h' tk' t R', Fr h₀ L h' m → RowTo s.heap R (takeR R.E R.c x).2 R' h' → Q (.str (takeW R.E R.c x) t) { s with heap := h', toks := tk' })
   : wpAny (model PR w) (ktrTop dp un gd cn cs L a ccd cl outer) (call (.ref 169) [.ref R.r, .str x tx]) Q E s := by
  obtain ⟨n0, n1, N⟩ := rl_news S O
  have d1 := rl_ne S
  clear O
  walk_at "M enterC"
  intro g L9 h₁ tk9 cells FG F' N' Y' B' X' T' l9 HD
  have mB : Ents g R.D := rl_ents S HD
  k_lt l9
  k_cells Y'
  try simp only [List.cons_append, List.nil_append] at N'
  try dsimp only
  k_lift B'
  try k_fold
  have mX : TestIs (fun p => !(p.1 == x)) := ⟨trivial⟩
  have S0 := S
  have mR : RowSt R h₁ := has_keeps S (keep0 HD F' N' (by lcg_sub))
  have mO : Off g L9 [R.r, R.l] := fun b hb => by
    rcases el2 hb with z | z
    · rw [z]; exact (N' _ (.tail _ (.head _))).2
    · rw [z]; exact (N' _ (.tail _ (.tail _ (.head _)))).2
  clear S
  k_steps
  · rename News g _ _ _ => n9
    rename Fr g _ _ _ => f9
    exact tk_bad k (by assumption) (by assumption) (by k_asm) S0 (keep0 HD f9 n9 (by lcg_sub))
  · exact hQ9 _
  · exact hQ9 _
  · rename News g _ _ _ => n9
    rename Fr g _ _ _ => f9
    rename_i l7
    exact tk_yes k (by assumption) (by assumption) (by k_asm) (to_take S0 HD f9 n9 rfl (by assumption) List.filter_sublist (by k_mem) (by k_mem) (by k_mem) (by k_ne) (by k_ne))
  · rename News g _ _ _ => n9
    rename Fr g _ _ _ => f9
    exact tk_no k (by assumption) (by k_asm) S0 (keep0 HD f9 n9 (by lcg_sub))
end
end
section
open PySem PySem.W PySem.Calls PyProof.Rows PyProof.V PySem.W.X
noncomputable def rfeet (R : Nat → RP) : List Addr := (R 0).foot ++ (R 1).foot ++ (R 2).foot ++ (R 3).foot
theorem mem_rfeet {R : Nat → RP} {b : Addr} : b ∈ rfeet R ↔ ∃ i < 4, b ∈ (R i).foot := by
  unfold rfeet
  simp only [List.mem_append]
  constructor
  · rintro (((h | h) | h) | h)
    · exact ⟨0, by omega, h⟩
    · exact ⟨1, by omega, h⟩
    · exact ⟨2, by omega, h⟩
    · exact ⟨3, by omega, h⟩
  · rintro ⟨i, hi, h⟩
    rcases lt4 i hi with rfl | rfl | rfl | rfl
    · exact .inl (.inl (.inl h))
    · exact .inl (.inl (.inr h))
    · exact .inl (.inr h)
    · exact .inr h
structure AllRows (R : Nat → RP) (h : Heap) : Prop where
  st : ∀ i < 4, RowSt (R i) h
  apart : ∀ i < 4, ∀ j < 4, i ≠ j → ∀ b ∈ (R i).foot, b ∉ (R j).foot
  short : ∀ i < 4, (R i).D.length ≤ 3
  sok : ∀ i < 4, ∀ p ∈ (R i).D, PyData.strOk p.2.1 = true
theorem AllRows.keep {R : Nat → RP} {h h' : Heap} (S : AllRows R h) (k : ∀ b ∈ rfeet R, ∀ o, h.get? b = some o → h'.get? b = some o) : AllRows R h' :=
  ⟨fun i hi => (S.st i hi).keep fun b hb => k b (mem_rfeet.mpr ⟨i, hi, hb⟩), S.apart, S.short, S.sok⟩
theorem AllRows.there {R : Nat → RP} {h : Heap} (S : AllRows R h) : ∀ b ∈ rfeet R, ∃ o, h.get? b = some o := fun b hb => by
  obtain ⟨i, hi, hb⟩ := mem_rfeet.mp hb
  exact (S.st i hi).there b hb
noncomputable def rowsOf (R : Nat → RP) (n : Nat) : Obj := PySem.W.listOf #[.ref (R 0).r, .ref (R 1).r, .ref (R 2).r, .ref (R 3).r] n
noncomputable def holdX (E : Nat → List Ent) (i : Nat) (x : Str) : Option Nat :=
  if 2 < i && has x (E 2) then some 2 else if 1 < i && has x (E 1) then some 1 else if has x (E 0) then none else some 1
theorem holdR_X {P : Nat → EP} {i : Nat} {x : Str} : holdR P i x = holdX (fun j => (P j).E) i x := rfl
theorem RowTo.before {h h₁ h' : Heap} {R R' : RP} {E' : List Ent} (K : h.StaysIn h₁) (t : RowTo h₁ R E' R' h') : RowTo h R E' R' h' :=
  ⟨t.st, t.r, t.c, t.E, keep_after K t.keep, fun b hb => (t.fresh b hb).imp id fun q => fresh_of_stays K q⟩
end
section
open PySem PySem.W PySem.Calls PyProof.Rows PyProof.V PySem.W.X
structure HidB (w : World) (mean : ExcName → Option Value) (mg mb : Str → Option Value) (A : Around) (base : Heap) (outer : List Env) (gf gh : Heap) : Prop where
  below : Below A base outer gh
  inn : (hd.heap_39 w.params).In gh
  top : Top VW LO mean mg mb gh
  of : ∀ b o, gh.get? b = some o → gf.get? b = some o
  size : gh.objs.size = gf.objs.size
theorem HidB.fr {w : World} {mean : ExcName → Option Value} {mg mb : Str → Option Value} {A : Around} {base : Heap} {outer : List Env} {gf gh h : Heap} {L : Addr} {m : Str → Option Value} (H : HidB w mean mg mb A base outer gf gh) (F : Fr gf L h m) : Fr gh L h m :=
  ⟨F.ns, fun b o e => F.keep b o (H.of b o e), Nat.le_trans (Nat.le_of_eq H.size) F.above⟩
section
variable {w : World} {A₀ : Around} {s : Shared} {L : Addr} {h₀ base : Heap} {m mg mb : Str → Option Value} {news news₀ : List (Addr × Obj)} {mean : ExcName → Option Value}
theorem enter2 {A : Around} {env : Env} {outer : List Env} {R : Result → Shared → Prop} {name qual : Str} {params : Arguments} {body : List Stmt} {scope : Scope} {dV kV doc pm cdv ct oc : Value} {an od : Option Addr} {osl : Array (Option Value)} {f : Addr} {args : Args} {binds : List (Str × Value)}
    (B : Below A₀ base outer h₀) (F : Fr h₀ L s.heap m) (X₀ : (hd.heap_39 w.params).In h₀) (N₀ : News h₀ L s.heap news₀) (N : News h₀ L s.heap news) (hs : ∀ p ∈ news₀, p ∈ news) (T : Top VW LO mean mg mb h₀) (hA : A.frames = some (env :: outer)) (hf : env.frame = some L) (hke : env.scope.kind = .function)
    (ho : (hd.heap_39 w.params).lookup f = some ⟨oc, od, .func (fnOf name qual params body scope dV kV doc pm an cdv ct), osl⟩) (hcd : codeIn (hd.heap_39 w.params) cdv qual = true) (hroom : A.depth < recursionLimit)
    (hbind : BindsTo s (fnOf name qual params body scope dV kV doc pm an cdv ct) args binds) (hloc : ∀ y ∈ binds, scope.names.lookup y.1 = some .local)
    (h : ∀ g gh h₁, Fr h₀ L gh m → Hides s.heap news gh → (∀ p ∈ news, gh.get? p.1 = none) → HidB w mean mg mb A base (env :: outer) g gh → Hides s.heap news₀ g → Fr g s.heap.objs.size h₁ (fun y => binds.reverse.lookup y) → News g s.heap.objs.size h₁ news₀ → Below A base (env :: outer) g → (hd.heap_39 w.params).In g → Top VW LO mean mg mb g →
      wpAny (model PR w) (A.deeper (envOf qual scope s.heap.objs.size f cdv)) (execs body (envOf qual scope s.heap.objs.size f cdv))
        (fun fl s' => R (.ok (.ret (match fl with | .ret v => v | _ => .none))) s')
        (fun e s' => wpAny (model PR w) (A.deeper (envOf qual scope s.heap.objs.size f cdv)) (leaving (envOf qual scope s.heap.objs.size f cdv) e) (fun _ s'' => R (.error e) s'') (fun e' s'' => R (.error e') s'') s')
        { s with heap := h₁, toks := s.toks + binds.length })
    (hco : scope.isCoroutine = false) (hgen : scope.isGenerator = false) (hk : scope.kind = .function)
    (hcell : ∀ x ∈ scope.names, x.2 ≠ .cell) : codeAny (model PR w) A (.call (.ref f) args) R s := by
  obtain ⟨FG, BG, st, lv⟩ := groundX (R := R) B F N hA hf hke
  obtain ⟨FG0, BG0, st0, lv0⟩ := groundX (R := R) B F N₀ hA hf hke
  have X := X₀.keeps F.keep
  refine codeAny_call_def (fd := fnOf name qual params body scope dV kV doc pm an cdv ct) (body := body) (binds := binds) hroom (X _ _ ho) rfl (T.nolimit.keeps F.keep) (codeRec_of X hcd) rfl hbind hcell hloc (fun h₁ hns hk₁ => ?_) hco hgen hk
  have hid : ∀ {led : List (Addr × Obj)}, News h₀ L s.heap led → Hides s.heap led (hideAll s.heap (led.map (·.1))) := fun N =>
    ⟨fun b o e n => hideAll_get _ e fun q => by obtain ⟨x, hx, rfl⟩ := List.mem_map.mp q; exact n x hx rfl, fun b o e => of_hideAll _ e, hideAll_size _ _, fun x hx => (N x hx).1⟩
  have up : ∀ b o, (hideAll s.heap (news.map (·.1))).get? b = some o → (hideAll s.heap (news₀.map (·.1))).get? b = some o := fun b o e => hideAll_get _ (of_hideAll _ e) fun q => by
    obtain ⟨p, hp, rfl⟩ := List.mem_map.mp q
    rw [hideAll_none _ (List.mem_map_of_mem (hs p hp))] at e; cases e
  exact h _ _ h₁ FG (hid N) (fun p hp => hideAll_none _ (List.mem_map_of_mem hp)) ⟨BG, X₀.keeps st, T.keeps st, up, by rw [hideAll_size, hideAll_size]⟩ (hid N₀) ⟨hns, fun b o e => hk₁ b o (of_hideAll _ e), Nat.le_of_eq (hideAll_size _ _)⟩
    (fun x hx => ⟨hk₁ _ _ (N₀ x hx).1, Nat.ne_of_lt (Heap.lt_size (N₀ x hx).1), hideAll_none _ (List.mem_map_of_mem hx)⟩) BG0 (X₀.keeps st0) (T.keeps st0)
theorem fr_on {gh h' : Heap} {L1 : Addr} {m' : Str → Option Value} (FG : Fr h₀ L gh m) (F : Fr gh L1 h' m') : Fr h₀ L h' m := ⟨FG.ns.keeps F.keep, fun b o e => F.keep _ _ (FG.keep b o e), FG.above⟩
end
end
section
open PySem PySem.W PySem.Calls PyProof.Rows PyProof.V PySem.W.X
set_option linter.unusedVariables false
theorem said_Bup_1 : True := by
  k_with_none
  (k_with "m binaryOp Add str str" => (k_here; (with_reducible show wpAny _ _ (binaryOp Operator.Add (Value.str _ _) (Value.str _ _)) _ _ _); (refine' PyProof.Rows.add_str ?hh ?hsz; (case hsz => (have e1 := litA; have e2 := litB; have e3 := sz_line; (try rw [StrLaws.length_append]); omega)); intro t9 k9)))
  (k_with "m k_room" => first | k_dflt exact room_lt (k := 1) hdp rfl | k_dflt exact room_lt (k := 2) hdp rfl | k_dflt exact room_lt (k := 3) hdp rfl | k_dflt exact room_lt (k := 4) hdp rfl | k_dflt exact room_lt (k := 0) hdp rfl | decide | ((try simp only [depth_mark, depth_under_make, depth_under_kw, depth_in1, depth_deeper, depth_caller]); (try dsimp only [ktrTop]); (show (_ : Nat) < 1000); omega))
  (k_with "m k_units" => first | k_dflt exact unit_lt (k := 0) hun rfl | k_dflt exact unit_lt (k := 1) hun rfl | k_dflt exact unit_lt (k := 2) hun rfl | exact Nat.le_of_ble_eq_true rfl | ((try simp only [units_in1, units_deeper, Around.mark_units, units_caller]); (try dsimp only [ktrTop]); (show (_ : Nat) < 9900); omega))
  (k_with "m exec Raise some none" => (k_here; k_dflt (refine' raise_own ?hh ?_; (case hh => exact rfl))))
  (k_with "m call ref" => (k_here; (with_reducible show wpAny _ _ (call (Value.ref 44) [Value.str _ _]) _ _ _); (rename Fr _ _ _ _ => mF); k_dflt ((refine mk_K (by k_asm) mF (by k_asm) (by k_asm) (by (show (_ : Nat) ≤ 400; dsimp only; omega)) ?_); intro e dx t h' tk hh tm n F' N' st e1 e2 ne X'; (refine ⟨_, _, _, rfl, (N' _ (List.Mem.head _)).1, X', ?_⟩); (try k_unfold); (try dsimp only); (refine leave_refused (by k_asm) mF e1 e2 F' (N' _ (List.Mem.head _)).1 (N' _ (List.Mem.tail _ (List.Mem.head _))).1 (by first | assumption | exact stays_of (by assumption) mF (by k_asm)) st (by assumption) ?_ (by rfl)); intro h9 R9; (try dsimp only))))
  (k_with "m setItem ref str" => (k_here; k_dflt (refine' setItem_K PyProof.V.same_str (strKind_is _ _ _ _) ?v ?F ?N ?U ?d ?f ?_ ?z; (case F => k_asm); (case N => k_asm); (case U => k_updF); (case d => k_asm); (case f => k_asm); (case z => assumption); (case v => k_flat)); intro h' o' F' N' hd' hf'; (try dsimp only at N'); (try k_sweep)))
  (k_with "m M enter" => (refine wpAny_call ?_; k_dflt (refine' enter ?k1 ?k2 ?k3 ?k4 ?k5 ?kA ?kF ?kK ?k6 ?k7 ?k8 ?k9 ?kB ?_ ?c2 ?c3 ?c4 ?c5; (case kA => exact rfl); (case kF => exact rfl); (case kK => first | assumption | exact rfl); (case k1 => k_asm); (case k2 => k_asm); (case k3 => k_asm); (case k4 => k_asm); (case k5 => k_asm); (case k6 => k_is); (case k7 => k_is); (case k8 => (show (_ : Nat) < 1000; dsimp only; omega)); (case k9 => exact BindsTo.of_eq rfl); (case c5 => decide); (case kB => exact locs rfl); (case c2 => exact rfl); (case c3 => exact rfl); (case c4 => exact rfl); k_whole)))
  (k_with "m delItem ref str" => (k_here; k_dflt (refine' kt_del_K PyProof.V.same_str (strKind_is _ _ _ _) ?F ?N ?U ?d ?f ?l ?_ ?z; (case F => k_asm); (case N => k_asm); (case U => k_updF); (case d => k_asm); (case f => k_asm); (case l => first | with_reducible assumption | rfl); (case z => assumption)); intro h' o' F' N' hd' hf'; try dsimp only at N'))
  (k_with "m M room" => first | k_dflt exact room_le (k := 1) hdp rfl | k_dflt exact room_le (k := 0) hun rfl | k_dflt exact room_le (k := 1) hun rfl | k_dflt exact room_le (k := 2) hdp rfl | k_dflt exact room_le (k := 0) hdp rfl | ((try simp only [depth_mark, depth_under_make, depth_under_kw, depth_in1, depth_deeper, depth_caller, units_in1, units_deeper, Around.mark_units, units_caller]); (try dsimp only [ktrTop]); omega))
  (k_with "m exec For Name Subscript cons nil" => (k_here; (rename Fr _ _ _ _ => lF'); (with_unfolding_all refine' For_turns lF' ?_; k_whole)))
  (k_with "m M enterC" => (refine wpAny_call ?_; k_dflt (refine' enterC ?k1 ?k2 ?k3 ?k4 ?k5 ?kA ?kF ?kK ?k6 ?k7 ?k8 ?k9 ?kB ?kD ?_ ?c2 ?c3 ?c4; (case kA => exact rfl); (case kF => exact rfl); (case kK => first | assumption | exact rfl); (case k1 => k_asm); (case k2 => k_asm); (case k3 => k_asm); (case k4 => k_asm); (case k5 => k_asm); (case k6 => k_is); (case k7 => k_is); (case k8 => (show (_ : Nat) < 1000; dsimp only; omega)); (case k9 => exact BindsTo.of_eq rfl); (case kB => exact rfl); (case kD => decide +kernel); (case c2 => exact rfl); (case c3 => exact rfl); (case c4 => exact rfl); k_whole)))
  trivial
section
variable {R : Nat → RP} {x : Str}
theorem hx_hit {i l : Nat} (hi : i < 4) (h1 : 1 ≤ l) (hl : l < i) (n : ∀ l', l < l' → l' < i → has x (R l').E = false) (h : has x (R l).E = true) : holdX (fun j => (R j).E) i x = some l := by
  rcases lt44 i hi l hl with ⟨rfl, rfl⟩ | ⟨rfl, rfl⟩ | ⟨rfl, rfl⟩ | ⟨rfl, rfl⟩ | ⟨rfl, rfl⟩ | ⟨rfl, rfl⟩
  · exact absurd h1 (by decide)
  · exact absurd h1 (by decide)
  · exact absurd h1 (by decide)
  · simp [holdX, h]
  · simp [holdX, h, n 2 (by decide) (by decide)]
  · simp [holdX, h]
theorem hx_base {i : Nat} (h1 : 1 ≤ i) (hi : i < 4) (n : ∀ l', 1 ≤ l' → l' < i → has x (R l').E = false) : holdX (fun j => (R j).E) i x = if has x (R 0).E then none else some 1 := by
  rcases lt4p i hi h1 with rfl | rfl | rfl
  · simp [holdX]
  · simp [holdX, n 1 (by decide) (by decide)]
  · simp [holdX, n 1 (by decide) (by decide), n 2 (by decide) (by decide)]
end
theorem rl_sub {R : Nat → RP} {j : Nat} (hj : j < 4) : ∀ b ∈ [(R j).r, (R j).l], b ∈ rfeet R := fun b hb => mem_rfeet.mpr ⟨j, hj, by
  rcases el2 hb with z | z
  · rw [z]; exact .head _
  · rw [z]; exact .tail _ (.head _)⟩
theorem four_atR {f : Nat → Value} {i : Nat} (hi : i < 4) : #[f 0, f 1, f 2, f 3][i]? = some (f i) := by
  rcases lt4 i hi with rfl | rfl | rfl | rfl <;> rfl
theorem item_rsN {prog : Program} {w : World} {A : Around} {E : Value → Shared → Prop} {s : Shared} {g : Heap} {L rs : Addr} {R : Nat → RP} {n : Nat} {Q : Value → Shared → Prop} {value slice : Expr} {l : Nat} {u : Tok}
    (N : News g L s.heap [(rs, PySem.W.listOf #[.ref (R 0).r, .ref (R 1).r, .ref (R 2).r, .ref (R 3).r] n)]) (hl : l < 4) (h : Q (.ref (R l).r) s)
    (hs : subscripted slice false (.ref rs) (.int (l : Int) u) = operate [.ref rs, .int (l : Int) u] (getItem (.ref rs) (.int (l : Int) u))) (hg : ∀ r, letTemporaryGo value (.ref rs) r = pure ()) :
    wpAny (model prog w) A (subscriptTail value slice (.ref rs) (.int (l : Int) u)) Q E s :=
  item_list ⟨_, (N _ (.head _)).1, rfl, _, rfl⟩ (by omega) (by omega) (four_atR (f := fun i => .ref (R i).r) hl) h hs hg
theorem said_Bup_2 : True := by
  (k_with "m M enter2" => (refine wpAny_call ?_; k_dflt (refine' enter2 ?k1 ?k2 ?k3 ?k4 ?n1 ?n2 ?k5 ?kA ?kF ?kK ?k6 ?k7 ?k8 ?k9 ?kB ?_ ?c2 ?c3 ?c4 ?c5; (case kA => exact rfl); (case kF => exact rfl); (case kK => first | assumption | exact rfl); (case k1 => k_asm); (case k2 => k_asm); (case k3 => k_asm); (case k4 => (rename News _ _ _ [_] => mN; exact mN)); (case n1 => (rename News _ _ _ (_ :: snap _ _) => mN; exact mN)); (case n2 => (intro p hp; exact List.mem_singleton.mp hp ▸ List.Mem.head _)); (case k5 => k_asm); (case k6 => k_is); (case k7 => k_is); (case k8 => (show (_ : Nat) < 1000; dsimp only; omega)); (case k9 => exact BindsTo.of_eq rfl); (case c5 => decide); (case kB => exact locs rfl); (case c2 => exact rfl); (case c3 => exact rfl); (case c4 => exact rfl); k_whole)))
  (k_with "m call ref" => (k_here; (with_reducible show wpAny _ _ (call (Value.ref 157) [_, _]) _ _ _); (rename Fr _ _ _ _ => mF); (rename News _ _ _ _ => mN); (rename AllRows _ _ => mR); (rename Off _ _ _ => mO); (rename HidB _ _ _ _ _ _ _ _ _ => mH); k_dflt (refine' has_spec (B := HidB.below mH) ?k2 ?k3 ?k4 ?hk ?hdp ?hun ?k5 ?k6 ?k7 ?k8 ?_; (case k2 => exact HidB.fr mH mF); (case k3 => exact HidB.inn mH); (case k4 => exact HidB.top mH); (case k5 => exact RowSt.keep (AllRows.st mR _ (by first | decide | assumption)) fun b _ o e => Fr.keep mF b o e); (case k6 => exact Off.mono mO (rl_sub (by first | decide | assumption))); (case k7 => exact AllRows.sok mR _ (by first | decide | assumption)); (case k8 => exact Nat.le_trans (AllRows.short mR _ (by first | decide | assumption)) (by first | decide | assumption)); (case hk => exact rfl); (case hdp => walk_at "M room"); (case hun => walk_at "M room"); (intro h' tk' F7 K'; (have N' := News.grown mN (Keep.nil K')); (have F' := Fr.keeps mF (Keep.nil K')); clear F7 mF mN; (try k_fold)))))
  (k_with "m call ref" => (k_here; (with_reducible show wpAny _ _ (call (Value.ref 152) [_, _, _]) _ _ _); (rename Fr _ _ _ _ => mF); (rename News _ _ _ _ => mN); (rename AllRows _ _ => mR); (rename Off _ _ _ => mO); (rename HidB _ _ _ _ _ _ _ _ _ => mH); (rename Hides _ [_] _ => mD); (have st9 := Keep.nil (keep0 mD mF mN (by k_dflt lcg_sub))); k_dflt (refine' bind_spec (B := HidB.below mH) ?k2 ?k3 ?k4 ?hk ?hdp ?hun ?k5 ?k6 ?k7 ?k8 ?_; (case k2 => exact HidB.fr mH mF); (case k3 => exact HidB.inn mH); (case k4 => exact HidB.top mH); (case k5 => exact RowSt.keep (AllRows.st mR _ (by first | decide | assumption)) fun b _ o e => Fr.keep mF b o e); (case k6 => exact Off.mono mO fun b hb => mem_rfeet.mpr ⟨_, (by first | decide | assumption), hb⟩); (case k7 => exact AllRows.short mR _ (by first | decide | assumption)); (case k8 => assumption); (case hk => exact rfl); (case hdp => walk_at "M room"); (case hun => walk_at "M room"); (intro h' tk' t' R' F' to'; (have to9 := RowTo.before st9 to'); clear mF mN to'; (try k_fold)))))
  (k_with "m subscriptTail" => (k_here; (with_reducible show wpAny _ _ (subscriptTail _ _ (Value.ref _) (Value.int (Nat.cast _) _)) _ _ _); (rename News _ _ _ [_] => mN); k_dflt (refine' item_rsN mN ?hi ?_ ?hs ?hg; (case hi => assumption); (case hs => with_unfolding_all rfl); (case hg => (intro _; with_unfolding_all rfl)))))
  (k_with "m call type:range" => (k_here; (with_reducible show wpAny _ _ (call _ [_, _, _]) _ _ _); (rename Fr _ _ _ _ => F'); (rename News _ _ _ _ => N'); (with_unfolding_all refine range3_rows F' N' (by first | decide | omega) ?_); intro _ _ _ _ _ _ _ _ _))
  (k_with "m exec For Name Call cons nil" => (k_here; (rename Fr _ _ _ _ => lF'); (with_unfolding_all refine' For_invVF lF' rfl rfl ?_); k_whole))
  (k_with "m pyIter ref" => (k_here; refine stopN ?_))
  trivial
section
variable {w : World} {mean : ExcName → Option Value} {mg mb : Str → Option Value} {dp un : Nat} {gd : Option (List Code)} {cn : Str} {cs : Scope} {a : Addr} {ccd : Value} {cl : List (Str × Addr)} {outer : List Env} {A₀ : Around} {base h₀ : Heap} {L : Addr} {m : Str → Option Value} {s : Shared} {Q E : Value → Shared → Prop}
  {x : Str} {tx : Tok} {v : Int} {tv : Tok} {R : Nat → RP} {rs : Addr} {nr : Nat} {i : Nat} {tp : Tok} {r1 l1 e1 e2 e3 : Addr} {x1 x2 x3 : Str} {v1 v2 v3 : Int} {b1 b2 b3 c : Bool}
set_option maxRecDepth 100000 in
set_option maxHeartbeats 8000000 in
theorem bup_spec
   (B : Below A₀ base outer h₀) (F : Fr h₀ L s.heap m) (X : (hd.heap_39 w.params).In h₀) (T : Top VW LO mean mg mb h₀) (hk : cs.kind = .function) (hdp : dp ≤ 370) (hun : un ≤ 860)
   (S : AllRows R s.heap) (hrs : s.heap.get? rs = some (rowsOf R nr)) (O : Off h₀ L (rs :: rfeet R)) (hof : rs ∉ rfeet R) (hxl : x.length ≤ 100) (h1 : 1 ≤ i) (h4 : i < 4)
   (none_ : ∀ h' tk' t, holdX (fun j => (R j).E) i x = none → Fr h₀ L h' m → Keep s.heap [] h' → Q (.str (lockedMsg x) t) { s with heap := h', toks := tk' })
   (some_ : ∀ j h' tk' t R', holdX (fun j => (R j).E) i x = some j → Fr h₀ L h' m → RowTo s.heap (R j) (bindR (R j).E (R j).c x v).2 R' h' → Q (.str ((bindR (R j).E (R j).c x v).1.getD (Str.ofString "")) t) { s with heap := h', toks := tk' })
   : wpAny (model PR w) (ktrTop dp un gd cn cs L a ccd cl outer) (call (.ref 164) [.ref rs, .int (i : Int) tp, .str x tx, .int v tv]) Q E s := by
  have N1 : News h₀ L s.heap [(rs, PySem.W.listOf #[.ref (R 0).r, .ref (R 1).r, .ref (R 2).r, .ref (R 3).r] nr)] := nc ⟨hrs, O _ (.head _)⟩ News.nil
  have N : News h₀ L s.heap ((rs, PySem.W.listOf #[.ref (R 0).r, .ref (R 1).r, .ref (R 2).r, .ref (R 3).r] nr) :: snap s.heap (rfeet R)) := nc ⟨hrs, O _ (.head _)⟩ (news_snap (Off.mono O fun _ h => .tail _ h))
  clear O
  walk_at "M enter2"
  intro g gh h₁ FGh HDh hid mH HD F' N' B' X' T'
  have mO : Off gh s.heap.objs.size (rfeet R) := fun b hb => by
    obtain ⟨o, e⟩ := S.there b hb
    exact ⟨Nat.ne_of_lt (Heap.lt_size e), hid (b, o) (.tail _ (mem_snap.mpr ⟨hb, e⟩))⟩
  have mR : AllRows R g := S.keep fun b hb o e => HD.get _ _ e fun p hp z => hof (by rw [List.mem_singleton.mp hp] at z; exact (show rs = b from z).symm ▸ hb)
  have rsL := N' _ (.head _)
  clear N N1 S hrs HDh hid
  try dsimp only
  try k_fold
  k_steps
  · unfold StopN
    try dsimp only
    rename IsRange _ _ _ _ _ _ _ _ => hr
    rename Fr g _ _ _ => f9
    rename News g _ _ _ => n9
    refine each_down (fun j F h M => F = [rs] ∧ h.get? rs = some (rowsOf R nr) ∧ M (Str.ofString "rows") = some (.ref rs) ∧ M (Str.ofString "name") = some (.str x tx) ∧ M (Str.ofString "value") = some (.int v tv) ∧ ∀ l, i < l + j + 1 → l < i → has x (R l).E = false) [rs]
      (fun j F h h' M hJ hk => ⟨hJ.1, hk rs (hJ.1 ▸ .head _) _ hJ.2.1, hJ.2.2⟩) (fun j F h M hJ b hb => by rw [hJ.1] at hb; rw [List.mem_singleton.mp hb]; exact rsL.2) (fun j F h M hJ b hb => by rw [hJ.1] at hb; rw [List.mem_singleton.mp hb]; exact ⟨_, hJ.2.1⟩)
      rfl hr (small_down (by omega) (by omega) (by decide) (by decide)) (n := i - 1) (by rw [rangeSize_downNat]; congr 1; omega) f9 ⟨rfl, (n9 _ (by k_mem)).1, rfl, rfl, rfl, fun l a b => absurd a (by omega)⟩ ?_ ?_
    · intro j t F₁ M h tk I oI hj hJ hIF eI hIL hI0 Fr₁
      obtain ⟨l, hl⟩ : ∃ l, l = i - 1 - j := ⟨_, rfl⟩
      have e3 : (i : Int) - 1 - (j : Int) = ((l : Nat) : Int) := by omega
      rw [e3, map4 hJ.2.2.1 hJ.2.2.2.1 hJ.2.2.2.2.1] at Fr₁
      have hn := hJ.2.2.2.2.2
      have hF := hJ.1
      have hl4 : l < 4 := by omega
      have N9 : News g s.heap.objs.size h [(rs, PySem.W.listOf #[.ref (R 0).r, .ref (R 1).r, .ref (R 2).r, .ref (R 3).r] nr)] := nc ⟨hJ.2.1, rsL.2⟩ News.nil
      replace Fr₁ : Fr g s.heap.objs.size h _ := Fr₁
      clear f9 n9 hr e3 hJ
      k_steps
      · rename RowTo _ _ _ _ _ => to9
        rename Fr gh _ _ _ => f9
        rename has _ _ = true => hh
        dsimp only [EachPost]
        k_steps
        exact some_ _ _ _ _ _ (hx_hit h4 (by omega) (by omega) (fun l' a b => hn l' (by omega) b) hh) (fr_on FGh (by assumption)) to9
      · rename Fr g _ _ _ => f9
        rename News g _ _ _ => n9
        rename has _ _ = false => hh
        refine ⟨_, _, _, _, rfl, f9, ⟨rfl, (n9 _ (.head _)).1, rfl, rfl, rfl, fun l' a b => ?_⟩, by rw [← hF]; exact hIF, Keep.nil K' _ _ eI, fun p hp => nomatch hp⟩
        rcases Nat.lt_or_ge i (l' + j + 1) with z | z
        · exact hn l' z b
        · rw [show l' = l by omega]; exact hh
    · intro h' tk' m' F' hJ Fr'
      dsimp only
      have hn := hJ.2.2.2.2.2
      have N9 : News g s.heap.objs.size h' [(rs, PySem.W.listOf #[.ref (R 0).r, .ref (R 1).r, .ref (R 2).r, .ref (R 3).r] nr)] := nc ⟨hJ.2.1, rsL.2⟩ News.nil
      rw [map3 hJ.2.2.1 hJ.2.2.2.1 hJ.2.2.2.2.1] at Fr'
      replace Fr' : Fr g s.heap.objs.size h' _ := Fr'
      clear f9 n9 hr hJ
      k_steps
      · rename Fr g _ _ _ => f9
        rename News g _ _ _ => n9
        exact none_ _ _ _ (by rw [hx_base h1 h4 fun l a b => hn l (by omega) b, if_pos (by assumption)]) (fr_on FGh (HidB.fr mH f9)) (keep0 HD f9 n9 (by lcg_sub))
      · rename RowTo _ _ _ _ _ => to9
        rename Fr gh _ _ _ => f9
        exact some_ _ _ _ _ _ (by rw [hx_base h1 h4 fun l a b => hn l (by omega) b, if_neg (by rename has _ _ = false => q; rw [q]; decide)]) (fr_on FGh f9) to9
  · rename Fr g _ _ _ => f9
    rename News g _ _ _ => n9
    exact none_ _ _ _ (by rw [hx_base h1 h4 fun l a b => absurd b (by omega), if_pos (by assumption)]) (fr_on FGh (HidB.fr mH f9)) (keep0 HD f9 n9 (by lcg_sub))
  · rename RowTo _ _ _ _ _ => to9
    rename Fr gh _ _ _ => f9
    exact some_ _ _ _ _ _ (by rw [hx_base h1 h4 fun l a b => absurd b (by omega), if_neg (by rename has _ _ = false => q; rw [q]; decide)]) (fr_on FGh f9) to9
end
end
section
open PySem PySem.W PySem.Calls PyProof.Rows PyProof.V PySem.W.X
set_option linter.unusedVariables false
theorem said_Pull_1 : True := by
  k_with_none
  (k_with "m binaryOp Add str str" => (k_here; (with_reducible show wpAny _ _ (binaryOp Operator.Add (Value.str _ _) (Value.str _ _)) _ _ _); (refine' PyProof.Rows.add_str ?hh ?hsz; (case hsz => (have e1 := litA; have e2 := litB; have e3 := sz_line; (try rw [StrLaws.length_append]); omega)); intro t9 k9)))
  (k_with "m k_room" => first | k_dflt exact room_lt (k := 1) hdp rfl | k_dflt exact room_lt (k := 2) hdp rfl | k_dflt exact room_lt (k := 3) hdp rfl | k_dflt exact room_lt (k := 4) hdp rfl | k_dflt exact room_lt (k := 0) hdp rfl | decide | ((try simp only [depth_mark, depth_under_make, depth_under_kw, depth_in1, depth_deeper, depth_caller]); (try dsimp only [ktrTop]); (show (_ : Nat) < 1000); omega))
  (k_with "m k_units" => first | k_dflt exact unit_lt (k := 0) hun rfl | k_dflt exact unit_lt (k := 1) hun rfl | k_dflt exact unit_lt (k := 2) hun rfl | exact Nat.le_of_ble_eq_true rfl | ((try simp only [units_in1, units_deeper, Around.mark_units, units_caller]); (try dsimp only [ktrTop]); (show (_ : Nat) < 9900); omega))
  (k_with "m exec Raise some none" => (k_here; k_dflt (refine' raise_own ?hh ?_; (case hh => exact rfl))))
  (k_with "m call ref" => (k_here; (with_reducible show wpAny _ _ (call (Value.ref 44) [Value.str _ _]) _ _ _); (rename Fr _ _ _ _ => mF); k_dflt ((refine mk_K (by k_asm) mF (by k_asm) (by k_asm) (by (show (_ : Nat) ≤ 400; dsimp only; omega)) ?_); intro e dx t h' tk hh tm n F' N' st e1 e2 ne X'; (refine ⟨_, _, _, rfl, (N' _ (List.Mem.head _)).1, X', ?_⟩); (try k_unfold); (try dsimp only); (refine leave_refused (by k_asm) mF e1 e2 F' (N' _ (List.Mem.head _)).1 (N' _ (List.Mem.tail _ (List.Mem.head _))).1 (by first | assumption | exact stays_of (by assumption) mF (by k_asm)) st (by assumption) ?_ (by rfl)); intro h9 R9; (try dsimp only))))
  (k_with "m setItem ref str" => (k_here; k_dflt (refine' setItem_K PyProof.V.same_str (strKind_is _ _ _ _) ?v ?F ?N ?U ?d ?f ?_ ?z; (case F => k_asm); (case N => k_asm); (case U => k_updF); (case d => k_asm); (case f => k_asm); (case z => assumption); (case v => k_flat)); intro h' o' F' N' hd' hf'; (try dsimp only at N'); (try k_sweep)))
  (k_with "m M enter" => (refine wpAny_call ?_; k_dflt (refine' enter ?k1 ?k2 ?k3 ?k4 ?k5 ?kA ?kF ?kK ?k6 ?k7 ?k8 ?k9 ?kB ?_ ?c2 ?c3 ?c4 ?c5; (case kA => exact rfl); (case kF => exact rfl); (case kK => first | assumption | exact rfl); (case k1 => k_asm); (case k2 => k_asm); (case k3 => k_asm); (case k4 => k_asm); (case k5 => k_asm); (case k6 => k_is); (case k7 => k_is); (case k8 => (show (_ : Nat) < 1000; dsimp only; omega)); (case k9 => exact BindsTo.of_eq rfl); (case c5 => decide); (case kB => exact locs rfl); (case c2 => exact rfl); (case c3 => exact rfl); (case c4 => exact rfl); k_whole)))
  (k_with "m delItem ref str" => (k_here; k_dflt (refine' kt_del_K PyProof.V.same_str (strKind_is _ _ _ _) ?F ?N ?U ?d ?f ?l ?_ ?z; (case F => k_asm); (case N => k_asm); (case U => k_updF); (case d => k_asm); (case f => k_asm); (case l => first | with_reducible assumption | rfl); (case z => assumption)); intro h' o' F' N' hd' hf'; try dsimp only at N'))
  (k_with "m M room" => first | k_dflt exact room_le (k := 1) hdp rfl | k_dflt exact room_le (k := 0) hun rfl | k_dflt exact room_le (k := 1) hun rfl | k_dflt exact room_le (k := 2) hdp rfl | k_dflt exact room_le (k := 0) hdp rfl | ((try simp only [depth_mark, depth_under_make, depth_under_kw, depth_in1, depth_deeper, depth_caller, units_in1, units_deeper, Around.mark_units, units_caller]); (try dsimp only [ktrTop]); omega))
  trivial
structure WellSt (wl rw : Addr) (xs : List Int) (sp : Int) (h : Heap) : Prop where
  well : ∃ a t u n, h.get? wl = some (PySem.W.listOf #[.int a t, .ref rw, .int sp u] n)
  row : ∃ vs n, h.get? rw = some (PySem.W.listOf (List.toArray vs) n) ∧ IntsAre vs xs
  low : 1 ≤ xs.length
  top : xs.length ≤ 40
  lo : 0 ≤ sp
  hi : sp ≤ 10000
section
variable {w : World} {mean : ExcName → Option Value} {mg mb : Str → Option Value} {dp un : Nat} {gd : Option (List Code)} {cn : Str} {cs : Scope} {a : Addr} {ccd : Value} {cl : List (Str × Addr)} {outer : List Env} {A₀ : Around} {base h₀ : Heap} {L : Addr} {m : Str → Option Value} {s : Shared} {Q E : Value → Shared → Prop}
  {x : Str} {tx : Tok} {v : Int} {tv : Tok} {wl rw : Addr} {xs : List Int} {sp most : Int} {tm : Tok} {r1 l1 e1 e2 e3 : Addr} {x1 x2 x3 : Str} {v1 v2 v3 : Int} {b1 b2 b3 c : Bool}
theorem fmod_nn {a b : Int} (h : 1 ≤ b) : 0 ≤ a.fmod b := Int.fmod_nonneg_of_pos a (by omega)
theorem fmod_lt' {a b : Int} (h : 1 ≤ b) : a.fmod b < b := Int.fmod_lt_of_pos a (by omega)
theorem pull_close (S : WellSt wl rw xs sp s.heap) {vs : List Value} {n1 n2 : Nat} {o0 : Obj} (hI : IntsAre vs xs) {g h' : Heap} {L' : Addr} {m' : Str → Option Value} {led' : List (Addr × Obj)} {tk : Nat} {t ta tb : Tok} {r r1 sp' : Int}
    (HD : Hides s.heap [(wl, o0), (rw, PySem.W.listOf (List.toArray vs) n1)] g) (F' : Fr g L' h' m') (N' : News g L' h' led')
    (h1 : (wl, PySem.W.listOf #[.int r1 ta, .ref rw, .int sp' tb] n2) ∈ led') (h2 : (rw, PySem.W.listOf (List.toArray vs) n1) ∈ led')
    (k : ∀ h' tk' t r sp', 0 ≤ r → r < most → sp ≤ sp' → sp' ≤ sp + 1 → Fr h₀ L h' m → WellSt wl rw xs sp' h' → Keep s.heap [wl] h' → Q (.int r t) { s with heap := h', toks := tk' })
    (k1 : 0 ≤ r) (k2 : r < most) (k3 : sp ≤ sp') (k4 : sp' ≤ sp + 1) (hsp : sp < 10000) (F : Fr h₀ L h' m) : Q (.int r t) { s with heap := h', toks := tk } :=
  k _ _ _ _ sp' k1 k2 k3 k4 F ⟨⟨_, _, _, _, (N' _ h1).1⟩, ⟨_, _, (N' _ h2).1, hI⟩, S.low, S.top, by have := S.lo; omega, by omega⟩
    (keep_of2 HD F' N' _ (fun p hp => by
      rcases List.mem_cons.mp hp with rfl | hp
      · exact .inl (.head _)
      · exact .inr (List.mem_singleton.mp hp ▸ h2)) fun p hp => by
      rcases List.mem_cons.mp hp with rfl | hp
      · exact (List.mem_map_of_mem h1 : (wl, PySem.W.listOf #[.int r1 ta, .ref rw, .int sp' tb] n2).1 ∈ led'.map (·.1))
      · exact List.mem_singleton.mp hp ▸ List.mem_map_of_mem h2)
set_option maxRecDepth 100000 in
set_option maxHeartbeats 8000000 in
theorem pull_spec
   (B : Below A₀ base outer h₀) (F : Fr h₀ L s.heap m) (X : (hd.heap_39 w.params).In h₀) (T : Top VW LO mean mg mb h₀) (hk : cs.kind = .function) (hdp : dp ≤ 390) (hun : un ≤ 900)
   (S : WellSt wl rw xs sp s.heap) (hsp : sp < 10000) (O : Off h₀ L [wl, rw]) (ne : @Ne Nat wl rw) (hm1 : 1 ≤ most) (hm2 : most ≤ 100)
   (k : ∀ h' tk' t r sp', 0 ≤ r → r < most → sp ≤ sp' → sp' ≤ sp + 1 → Fr h₀ L h' m → WellSt wl rw xs sp' h' → Keep s.heap [wl] h' → Q (.int r t) { s with heap := h', toks := tk' })
   : wpAny (model PR w) (ktrTop dp un gd cn cs L a ccd cl outer) (call (.ref 138) [.ref wl, .int most tm]) Q E s := by
  obtain ⟨a0, ta, tb, n0, E0⟩ := S.well
  obtain ⟨vs, n1, E1, hI⟩ := S.row
  have f1 := S.low
  have f2 := S.top
  have f3 := S.lo
  have f4 := S.hi
  have N : News h₀ L s.heap [(wl, PySem.W.listOf #[.int a0 ta, .ref rw, .int sp tb] n0), (rw, PySem.W.listOf (List.toArray vs) n1)] := nc ⟨E0, O _ (.head _)⟩ (nc ⟨E1, O _ (.tail _ (.head _))⟩ News.nil)
  clear O
  walk_at "M enter"
  intro g h₁ FG F' N' B' X' T' HD
  try dsimp only
  try k_fold
  k_steps
  all_goals (rename News g _ _ _ => n9; rename Fr g _ _ _ => f9)
  all_goals exact pull_close S hI HD f9 n9 (by k_mem) (by k_mem) k (fmod_nn hm1) (fmod_lt' hm1) (by omega) (by omega) hsp (by k_asm)
end
end
section
open PySem PySem.W PySem.Calls PyProof.Rows PyProof.V PySem.W.X
set_option linter.unusedVariables false
noncomputable def foot4 (wl rw el rs : Addr) (ex : List (Addr × Obj)) (P : Nat → EP) (R : Nat → RP) : List Addr := wl :: rw :: el :: rs :: (feet P ++ (rfeet R ++ ex.map (·.1)))
structure St4 (w : World) (h₀ : Heap) (L wl rw el rs : Addr) (ex : List (Addr × Obj)) (xs : List Int) (P : Nat → EP) (R : Nat → RP) (sp : Int) (h : Heap) : Prop where
  env : AllSt w P h
  rows : AllRows R h
  well : WellSt wl rw xs sp h
  els : ∃ n, h.get? el = some (PySem.W.listOf #[.ref (P 0).e, .ref (P 1).e, .ref (P 2).e, .ref (P 3).e] n)
  rss : ∃ n, h.get? rs = some (rowsOf R n)
  off : Off h₀ L (foot4 wl rw el rs ex P R)
  heads : [wl, rw, el, rs].Nodup
  offP : ∀ b ∈ feet P, b ∉ [wl, rw, el, rs]
  offR : ∀ b ∈ rfeet R, b ∉ [wl, rw, el, rs]
  apart : ∀ b ∈ feet P, b ∉ rfeet R
  ext : ∀ p ∈ ex, h.get? p.1 = some p.2
  offX : ∀ p ∈ ex, p.1 ∉ [wl, rw, el, rs] ∧ p.1 ∉ feet P ∧ p.1 ∉ rfeet R
section
variable {w : World} {h₀ h h' : Heap} {L wl rw el rs : Addr} {ex : List (Addr × Obj)} {xs : List Int} {P P' : Nat → EP} {R : Nat → RP} {sp sp' : Int} {m : Str → Option Value}
theorem WellSt.keep {h h' : Heap} (S : WellSt wl rw xs sp h) (k : ∀ b ∈ [wl, rw], ∀ o, h.get? b = some o → h'.get? b = some o) : WellSt wl rw xs sp h' :=
  ⟨let ⟨a, t, u, n, e⟩ := S.well; ⟨a, t, u, n, k _ (.head _) _ e⟩, let ⟨vs, n, e, i⟩ := S.row; ⟨vs, n, k _ (.tail _ (.head _)) _ e, i⟩, S.low, S.top, S.lo, S.hi⟩
theorem f4_P {b : Addr} (hb : b ∈ feet P) : b ∈ foot4 wl rw el rs ex P R := .tail _ (.tail _ (.tail _ (.tail _ (List.mem_append.mpr (.inl hb)))))
theorem f4_R {b : Addr} (hb : b ∈ rfeet R) : b ∈ foot4 wl rw el rs ex P R := .tail _ (.tail _ (.tail _ (.tail _ (List.mem_append.mpr (.inr (List.mem_append.mpr (.inl hb)))))))
theorem f4_X {p : Addr × Obj} (hb : p ∈ ex) : p.1 ∈ foot4 wl rw el rs ex P R := .tail _ (.tail _ (.tail _ (.tail _ (List.mem_append.mpr (.inr (List.mem_append.mpr (.inr (List.mem_map_of_mem hb))))))))
theorem f4_h {b : Addr} (hb : b ∈ [wl, rw, el, rs]) : b ∈ foot4 wl rw el rs ex P R := by
  simp only [List.mem_cons, List.not_mem_nil, or_false] at hb
  unfold foot4
  rcases hb with rfl | rfl | rfl | rfl <;> simp
theorem f4_cases {b : Addr} (hb : b ∈ foot4 wl rw el rs ex P R) : b ∈ [wl, rw, el, rs] ∨ b ∈ feet P ∨ b ∈ rfeet R ∨ ∃ p ∈ ex, p.1 = b := by
  unfold foot4 at hb
  simp only [List.mem_cons, List.mem_append] at hb
  rcases hb with rfl | rfl | rfl | rfl | hb | hb | hb
  · exact .inl (by simp)
  · exact .inl (by simp)
  · exact .inl (by simp)
  · exact .inl (by simp)
  · exact .inr (.inl hb)
  · exact .inr (.inr (.inl hb))
  · exact .inr (.inr (.inr (List.mem_map.mp hb)))
theorem St4.keep (S : St4 w h₀ L wl rw el rs ex xs P R sp h) (k : ∀ b ∈ foot4 wl rw el rs ex P R, ∀ o, h.get? b = some o → h'.get? b = some o) : St4 w h₀ L wl rw el rs ex xs P R sp h' :=
  ⟨S.env.keep fun b hb => k b (f4_P hb), S.rows.keep fun b hb => k b (f4_R hb), S.well.keep fun b hb => k b (by
    simp only [List.mem_cons, List.not_mem_nil, or_false] at hb
    rcases hb with rfl | rfl <;> exact f4_h (by simp)), let ⟨n, e⟩ := S.els; ⟨n, k _ (f4_h (by simp)) _ e⟩, let ⟨n, e⟩ := S.rss; ⟨n, k _ (f4_h (by simp)) _ e⟩, S.off, S.heads, S.offP, S.offR, S.apart, fun p hp => k _ (f4_X hp) _ (S.ext p hp), S.offX⟩
theorem St4.there (S : St4 w h₀ L wl rw el rs ex xs P R sp h) : ∀ b ∈ foot4 wl rw el rs ex P R, ∃ o, h.get? b = some o := fun b hb => by
  rcases f4_cases hb with hb | hb | hb | ⟨p, hp, rfl⟩
  · simp only [List.mem_cons, List.not_mem_nil, or_false] at hb
    rcases hb with rfl | rfl | rfl | rfl
    · obtain ⟨_, _, _, _, e⟩ := S.well.well; exact ⟨_, e⟩
    · obtain ⟨_, _, e, _⟩ := S.well.row; exact ⟨_, e⟩
    · obtain ⟨_, e⟩ := S.els; exact ⟨_, e⟩
    · obtain ⟨_, e⟩ := S.rss; exact ⟨_, e⟩
  · exact S.env.there b hb
  · exact S.rows.there b hb
  · exact ⟨_, S.ext p hp⟩
theorem St4.at (S : St4 w h₀ L wl rw el rs ex xs P R sp h) {led : List (Addr × Obj)} (N : News h₀ L h' led) (hs : ∀ p ∈ snap h (foot4 wl rw el rs ex P R), p ∈ led) : St4 w h₀ L wl rw el rs ex xs P R sp h' :=
  S.keep fun b hb o e => (N (b, o) (hs _ (mem_snap.mpr ⟨hb, e⟩))).1
theorem St4.news (S : St4 w h₀ L wl rw el rs ex xs P R sp h) : News h₀ L h (snap h (foot4 wl rw el rs ex P R)) := news_snap S.off
theorem St4.ne (S : St4 w h₀ L wl rw el rs ex xs P R sp h) : wl ≠ rw ∧ wl ≠ el ∧ wl ≠ rs ∧ rw ≠ el ∧ rw ≠ rs ∧ el ≠ rs := by
  have hd := S.heads
  simp only [List.nodup_cons, List.mem_cons, List.not_mem_nil, or_false, not_or] at hd
  exact ⟨hd.1.1, hd.1.2.1, hd.1.2.2, hd.2.1.1, hd.2.1.2, hd.2.2.1⟩
theorem St4.wl_new (S : St4 w h₀ L wl rw el rs ex xs P R sp h) : ∀ b ∈ foot4 wl rw el rs ex P R, b ≠ wl → b ∉ [wl] := fun _ _ n hb => n (List.mem_singleton.mp hb)
theorem St4.pulled (S : St4 w h₀ L wl rw el rs ex xs P R sp h) (W : WellSt wl rw xs sp' h') (K : Keep h [wl] h') : St4 w h₀ L wl rw el rs ex xs P R sp' h' := by
  have ne := S.ne
  refine ⟨S.env.keep fun b hb o e => K.get b o e fun q => S.offP b hb ?_, S.rows.keep fun b hb o e => K.get b o e fun q => S.offR b hb ?_, W, ?_, ?_, S.off, S.heads, S.offP, S.offR, S.apart, fun p hp => K.get _ _ (S.ext p hp) fun q => (S.offX p hp).1 (List.mem_singleton.mp q ▸ .head _), S.offX⟩
  · rw [List.mem_singleton.mp q]; exact .head _
  · rw [List.mem_singleton.mp q]; exact .head _
  · obtain ⟨n, e⟩ := S.els; exact ⟨n, K.get _ _ e fun q => ne.2.1 (List.mem_singleton.mp q).symm⟩
  · obtain ⟨n, e⟩ := S.rss; exact ⟨n, K.get _ _ e fun q => ne.2.2.1 (List.mem_singleton.mp q).symm⟩
theorem foot4_eq (hf : feet P' = feet P) : foot4 wl rw el rs ex P' R = foot4 wl rw el rs ex P R := by unfold foot4; rw [hf]
theorem St4.envs (S : St4 w h₀ L wl rw el rs ex xs P R sp h) (A' : AllSt w P' h') {l : List Addr} (K : Keep h l h') (hl : ∀ b ∈ l, b = L ∨ b ∈ feet P) (hf : feet P' = feet P) (he : ∀ i, (P' i).e = (P i).e) : St4 w h₀ L wl rw el rs ex xs P' R sp h' := by
  have nl : ∀ b ∈ foot4 wl rw el rs ex P R, b ∉ feet P → b ∉ l := fun b hb n q => by
    rcases hl b q with rfl | q
    · exact (S.off _ hb).1 rfl
    · exact n q
  have hh : ∀ b ∈ [wl, rw, el, rs], b ∉ l := fun b hb => nl b (f4_h hb) fun q => S.offP b q hb
  refine ⟨A', S.rows.keep fun b hb o e => K.get b o e (nl b (f4_R hb) fun q => S.apart b q hb), S.well.keep fun b hb o e => K.get b o e (hh b (by
    simp only [List.mem_cons, List.not_mem_nil, or_false] at hb ⊢
    rcases hb with rfl | rfl <;> simp)), ?_, ?_, by rw [foot4_eq hf]; exact S.off, S.heads, by rw [hf]; exact S.offP, S.offR, by rw [hf]; exact S.apart, fun p hp => K.get _ _ (S.ext p hp) (nl _ (f4_X hp) (S.offX p hp).2.1), by rw [hf]; exact S.offX⟩
  · obtain ⟨n, e⟩ := S.els; exact ⟨n, by rw [he, he, he, he]; exact K.get _ _ e (hh _ (by simp))⟩
  · obtain ⟨n, e⟩ := S.rss; exact ⟨n, K.get _ _ e (hh _ (by simp))⟩
noncomputable def setR (R : Nat → RP) (i : Nat) (p : RP) : Nat → RP := fun j => if j = i then p else R j
theorem mem_setR {j : Nat} {R' : RP} {b : Addr} (hj : j < 4) (h : b ∈ rfeet (setR R j R')) : b ∈ R'.foot ∨ b ∈ rfeet R := by
  obtain ⟨n, hn, hb⟩ := mem_rfeet.mp h
  unfold setR at hb
  split at hb
  · exact .inl hb
  · exact .inr (mem_rfeet.mpr ⟨n, hn, hb⟩)
theorem St4.row (S : St4 w h₀ L wl rw el rs ex xs P R sp h) (F : Fr h₀ L h m) {j : Nat} {E' : List Ent} {R' : RP} (hj : j < 4) (t : RowTo h (R j) E' R' h') (h3 : E'.length ≤ 3) (ok : ∀ p ∈ E', PyData.strOk p.1 = true) : St4 w h₀ L wl rw el rs ex xs P (setR R j R') sp h' := by
  have fr : ∀ b ∈ R'.foot, b ∈ (R j).foot ∨ (b ≠ L ∧ h₀.get? b = none ∧ h.get? b = none) := fun b hb => (t.fresh b hb).imp id fun n => by
    refine ⟨fun q => ?_, ?_, n⟩
    · obtain ⟨oL, _, _, hL, _⟩ := F.ns
      rw [q, hL] at n; cases n
    · cases q : h₀.get? b with
      | none => rfl
      | some o => rw [F.keep b o q] at n; cases n
  have hjR : ∀ b ∈ (R j).foot, b ∈ rfeet R := fun b hb => mem_rfeet.mpr ⟨j, hj, hb⟩
  have nr : ∀ b ∈ foot4 wl rw el rs ex P R, h.get? b ≠ none := fun b hb q => by
    obtain ⟨o, e⟩ := S.there b hb; rw [q] at e; cases e
  have low : R'.D.length = E'.length := by rw [← t.E]; unfold RP.E; rw [List.length_map]
  have hD : ∀ p ∈ R'.D, p.2 ∈ E' := fun p hp => by rw [← t.E]; exact List.mem_map_of_mem hp
  have others : ∀ n < 4, n ≠ j → ∀ b ∈ (R n).foot, b ∉ (R j).foot := fun n hn q => S.rows.apart n hn j hj q
  have cross : ∀ n < 4, n ≠ j → ∀ b ∈ (R n).foot, b ∉ R'.foot := fun n hn q b hb z => by
    rcases fr b z with z | z
    · exact others n hn q b hb z
    · exact nr b (f4_R (mem_rfeet.mpr ⟨n, hn, hb⟩)) z.2.2
  refine ⟨S.env.keep fun b hb o e => t.keep.get b o e fun q => S.apart b hb (hjR b q), ⟨fun n hn => ?_, fun n hn l hl ne b hb => ?_, fun n hn => ?_, fun n hn p hp => ?_⟩, S.well.keep fun b hb o e => t.keep.get b o e fun q => S.offR b (hjR b q) ?_, ?_, ?_, fun b hb => ?_, S.heads, S.offP, fun b hb => ?_, fun b hb q => ?_, fun p hp => t.keep.get _ _ (S.ext p hp) fun q => (S.offX p hp).2.2 (hjR _ q), fun p hp => ⟨(S.offX p hp).1, (S.offX p hp).2.1, fun q => ?_⟩⟩
  · unfold setR; split
    · exact t.st
    · rename_i ne; exact (S.rows.st n hn).keep fun b hb o e => t.keep.get b o e (others n hn ne b hb)
  · unfold setR at hb ⊢
    split at hb
    · rename_i e1
      split
      · rename_i e2; exact absurd (e1.trans e2.symm) ne
      · rename_i e2; exact fun z => cross l hl e2 b z hb
    · rename_i e1
      split
      · rename_i e2; exact cross n hn e1 b hb
      · exact S.rows.apart n hn l hl ne b hb
  · unfold setR; split
    · rw [low]; exact h3
    · exact S.rows.short n hn
  · unfold setR at hp; split at hp
    · exact ok p.2 (hD p hp)
    · exact S.rows.sok n hn p hp
  · simp only [List.mem_cons, List.not_mem_nil, or_false] at hb ⊢
    rcases hb with rfl | rfl <;> simp
  · obtain ⟨n, e⟩ := S.els; exact ⟨n, t.keep.get _ _ e fun q => S.offR _ (hjR _ q) (by simp)⟩
  · obtain ⟨n, e⟩ := S.rss
    refine ⟨n, ?_⟩
    have rr : ∀ n, (setR R j R' n).r = (R n).r := fun n => by unfold setR; split <;> first | rfl | (rename_i q; rw [t.r, q])
    unfold rowsOf at e ⊢
    rw [rr, rr, rr, rr]; exact t.keep.get _ _ e fun q => S.offR _ (hjR _ q) (by simp)
  · rcases f4_cases hb with hb | hb | hb | ⟨p, hp, rfl⟩
    · exact S.off _ (f4_h hb)
    · exact S.off _ (f4_P hb)
    · rcases mem_setR hj hb with hb | hb
      · rcases fr b hb with hb | hb
        · exact S.off _ (f4_R (hjR b hb))
        · exact ⟨hb.1, hb.2.1⟩
      · exact S.off _ (f4_R hb)
    · exact S.off _ (f4_X hp)
  · rcases mem_setR hj hb with hb | hb
    · rcases fr b hb with hb | hb
      · exact S.offR b (hjR b hb)
      · exact fun q => nr b (f4_h q) hb.2.2
    · exact S.offR b hb
  · rcases mem_setR hj q with q | q
    · rcases fr b q with q | q
      · exact S.apart b hb (hjR b q)
      · exact nr b (f4_P hb) q.2.2
    · exact S.apart b hb q
  · rcases mem_setR hj q with q | q
    · rcases fr _ q with q | q
      · exact (S.offX p hp).2.2 (hjR _ q)
      · exact nr _ (f4_X hp) q.2.2
    · exact (S.offX p hp).2.2 q
end
end
section
open PySem PySem.W PySem.Calls PyProof.Rows PyProof.V PySem.W.X
set_option linter.unusedVariables false
noncomputable def bodyOf (K : Frag) (f : Addr) : List Stmt := match K.lookup f with
  | some ⟨_, _, .func fd, _⟩ => (match fd.body with | .stmts b => b | _ => [])
  | _ => []
noncomputable def scopeOf (K : Frag) (f : Addr) : Scope := match K.lookup f with
  | some ⟨_, _, .func fd, _⟩ => fd.scope
  | _ => default
theorem lit_use {K : Frag} {f : Addr} {body0 body : List Stmt} {scope0 scope : Scope} {name qual : Str} {params : Arguments} {dV kV doc pm cdv ct oc : Value} {an od : Option Addr} {osl : Array (Option Value)} {G : Prop}
    (hb : bodyOf K f = body0) (hc : scopeOf K f = scope0) (ho : K.lookup f = some ⟨oc, od, .func (fnOf name qual params body scope dV kV doc pm an cdv ct), osl⟩) (h : body = body0 → scope = scope0 → G) : G :=
  h (by rw [← hb]; unfold bodyOf; rw [ho]) (by rw [← hc]; unfold scopeOf; rw [ho])
noncomputable def nth : List Stmt → Nat → Stmt
  | a :: _, 0 => a
  | _ :: l, n + 1 => nth l n
  | [], _ => .Pass ⟨0, 0, 0, 0⟩
noncomputable def forBody : Stmt → List Stmt
  | .For _ _ b _ _ => b
  | _ => []
theorem nth_0 (a : Stmt) (l : List Stmt) : nth (a :: l) 0 = a := rfl
theorem nth_s (a : Stmt) (l : List Stmt) (n : Nat) : nth (a :: l) (n + 1) = nth l n := rfl
theorem forBody_for (a b : Expr) (c d : List Stmt) (p : Pos) : forBody (.For a b c d p) = c := rfl
theorem cut_cons {M : Model} {A : Around} {st : Stmt} {rest : List Stmt} {env : Env} {Q : Flow → Shared → Prop} {E : Value → Shared → Prop} {s : Shared}
    (h : ∀ Q' : Flow → Shared → Prop, (∀ s', wpAny M A (execs rest env) Q E s' → Q' .next s') → (∀ f s', f ≠ .next → Q f s' → Q' f s') → wpAny M A (exec st env) Q' E s) : wpAny M A (execs (st :: rest) env) Q E s := by
  refine wpAny_execs_cons ?_
  refine h _ (fun s' a => a) fun f s' hf q => ?_
  cases f <;> first | exact absurd rfl hf | exact q
section
variable {prog : Program} {w : World} {A : Around} {E : Value → Shared → Prop} {s : Shared} {h₀ h h' : Heap} {L wl rw el rs : Addr} {ex : List (Addr × Obj)} {xs : List Int} {P : Nat → EP} {R : Nat → RP} {sp sp' : Int} {Q : Value → Shared → Prop} {value slice : Expr}
theorem four_at {f : Nat → Value} {i : Nat} (hi : i < 4) : #[f 0, f 1, f 2, f 3][i]? = some (f i) := by
  rcases lt4 i hi with rfl | rfl | rfl | rfl <;> rfl
theorem item_els (S : St4 w h₀ L wl rw el rs ex xs P R sp s.heap) {i : Nat} {u : Tok} (hi : i < 4) (h : Q (.ref (P i).e) s)
    (hs : subscripted slice false (.ref el) (.int (i : Int) u) = operate [.ref el, .int (i : Int) u] (getItem (.ref el) (.int (i : Int) u))) (hg : ∀ r, letTemporaryGo value (.ref el) r = pure ()) :
    wpAny (model prog w) A (subscriptTail value slice (.ref el) (.int (i : Int) u)) Q E s := by
  obtain ⟨n, e⟩ := S.els
  exact item_list ⟨_, e, rfl, _, rfl⟩ (by omega) (by omega) (four_at (f := fun i => .ref (P i).e) hi) h hs hg
theorem item_rss (S : St4 w h₀ L wl rw el rs ex xs P R sp s.heap) {i : Nat} {u : Tok} (hi : i < 4) (h : Q (.ref (R i).r) s)
    (hs : subscripted slice false (.ref rs) (.int (i : Int) u) = operate [.ref rs, .int (i : Int) u] (getItem (.ref rs) (.int (i : Int) u))) (hg : ∀ r, letTemporaryGo value (.ref rs) r = pure ()) :
    wpAny (model prog w) A (subscriptTail value slice (.ref rs) (.int (i : Int) u)) Q E s := by
  obtain ⟨n, e⟩ := S.rss
  exact item_list ⟨_, e, rfl, _, rfl⟩ (by omega) (by omega) (four_at (f := fun i => .ref (R i).r) hi) h hs hg
theorem item_els1 (S : St4 w h₀ L wl rw el rs ex xs P R sp s.heap) {u : Tok} (h : Q (.ref (P 1).e) s)
    (hs : subscripted slice false (.ref el) (.int 1 u) = operate [.ref el, .int 1 u] (getItem (.ref el) (.int 1 u))) (hg : ∀ r, letTemporaryGo value (.ref el) r = pure ()) :
    wpAny (model prog w) A (subscriptTail value slice (.ref el) (.int 1 u)) Q E s := by
  obtain ⟨n, e⟩ := S.els
  exact item_list ⟨_, e, rfl, _, rfl⟩ (by decide) (by decide) rfl h hs hg
theorem two_four {b : Addr} (hb : b ∈ [wl, rw]) : b ∈ [wl, rw, el, rs] := by
  simp only [List.mem_cons, List.not_mem_nil, or_false] at hb ⊢
  rcases hb with rfl | rfl <;> simp
theorem news_D {D : Addr} {t1 t2 t3 : Tok} {n : Nat} {a b c : Str} {h1 : Heap} (N : News h₀ L h ((D, PySem.W.listOf #[.str a t1, .str b t2, .str c t3] n) :: snap h1 (foot4 wl rw el rs ex P R))) (S : St4 w h₀ L wl rw el rs ex xs P R sp h) (K : Keep h [wl] h') (S' : St4 w h₀ L wl rw el rs ex xs P R sp' h') :
    News h₀ L h' ((D, PySem.W.listOf #[.str a t1, .str b t2, .str c t3] n) :: snap h' (foot4 wl rw el rs ex P R)) := by
  have h1 := N _ (.head _)
  refine nc ⟨K.get _ _ h1.1 fun q => ?_, h1.2⟩ S'.news
  obtain ⟨a, t, u, n, e⟩ := S.well.well
  rw [← List.mem_singleton.mp q, h1.1] at e
  cases e
theorem item_D {D : Addr} {t1 t2 t3 : Tok} {n : Nat} {led : List (Addr × Obj)} (N : News h₀ L s.heap ((D, PySem.W.listOf #[.str (Str.ofString "a") t1, .str (Str.ofString "b") t2, .str (Str.ofString ".h") t3] n) :: led)) {r : Int} {u : Tok} (h0 : 0 ≤ r) (h3 : r < 3) (h : ∀ x t, (x = Str.ofString "a" ∨ x = Str.ofString "b" ∨ x = Str.ofString ".h") → Q (.str x t) s)
    (hs : subscripted slice false (.ref D) (.int r u) = operate [.ref D, .int r u] (getItem (.ref D) (.int r u))) (hg : ∀ r, letTemporaryGo value (.ref D) r = pure ()) :
    wpAny (model prog w) A (subscriptTail value slice (.ref D) (.int r u)) Q E s := by
  have e := (N _ (.head _)).1
  have : r = 0 ∨ r = 1 ∨ r = 2 := by omega
  rcases this with rfl | rfl | rfl
  · exact item_list ⟨_, e, rfl, _, rfl⟩ (by decide) (by decide) rfl (h _ _ (.inl rfl)) hs hg
  · exact item_list ⟨_, e, rfl, _, rfl⟩ (by decide) (by decide) rfl (h _ _ (.inr (.inl rfl))) hs hg
  · exact item_list ⟨_, e, rfl, _, rfl⟩ (by decide) (by decide) rfl (h _ _ (.inr (.inr rfl))) hs hg
theorem to_nat {r : Int} (h0 : 0 ≤ r) (h3 : r < 3) : ∃ i : Nat, 1 + r = (i : Int) ∧ 1 ≤ i ∧ i < 4 := ⟨(1 + r).toNat, by omega, by omega, by omega⟩
end
end
section
open PySem PySem.W PySem.Calls PyProof.Rows PyProof.V PySem.W.X
set_option linter.unusedVariables false
theorem said_TurnA_1 : True := by
  k_with_none
  (k_with "m binaryOp Add str str" => (k_here; (with_reducible show wpAny _ _ (binaryOp Operator.Add (Value.str _ _) (Value.str _ _)) _ _ _); (refine' PyProof.Rows.add_str ?hh ?hsz; (case hsz => (have e1 := litA; have e2 := litB; have e3 := sz_line; (try rw [StrLaws.length_append]); omega)); intro t9 k9)))
  (k_with "m k_room" => first | k_dflt exact room_lt (k := 1) hdp rfl | k_dflt exact room_lt (k := 2) hdp rfl | k_dflt exact room_lt (k := 3) hdp rfl | k_dflt exact room_lt (k := 4) hdp rfl | k_dflt exact room_lt (k := 0) hdp rfl | decide | ((try simp only [depth_mark, depth_under_make, depth_under_kw, depth_in1, depth_deeper, depth_caller]); (try dsimp only [ktrTop]); (show (_ : Nat) < 1000); omega))
  (k_with "m k_units" => first | k_dflt exact unit_lt (k := 0) hun rfl | k_dflt exact unit_lt (k := 1) hun rfl | k_dflt exact unit_lt (k := 2) hun rfl | exact Nat.le_of_ble_eq_true rfl | ((try simp only [units_in1, units_deeper, Around.mark_units, units_caller]); (try dsimp only [ktrTop]); (show (_ : Nat) < 9900); omega))
  (k_with "m exec Raise some none" => (k_here; k_dflt (refine' raise_own ?hh ?_; (case hh => exact rfl))))
  (k_with "m call ref" => (k_here; (with_reducible show wpAny _ _ (call (Value.ref 44) [Value.str _ _]) _ _ _); (rename Fr _ _ _ _ => mF); k_dflt ((refine mk_K (by k_asm) mF (by k_asm) (by k_asm) (by (show (_ : Nat) ≤ 400; dsimp only; omega)) ?_); intro e dx t h' tk hh tm n F' N' st e1 e2 ne X'; (refine ⟨_, _, _, rfl, (N' _ (List.Mem.head _)).1, X', ?_⟩); (try k_unfold); (try dsimp only); (refine leave_refused (by k_asm) mF e1 e2 F' (N' _ (List.Mem.head _)).1 (N' _ (List.Mem.tail _ (List.Mem.head _))).1 (by first | assumption | exact stays_of (by assumption) mF (by k_asm)) st (by assumption) ?_ (by rfl)); intro h9 R9; (try dsimp only))))
  (k_with "m setItem ref str" => (k_here; k_dflt (refine' setItem_K PyProof.V.same_str (strKind_is _ _ _ _) ?v ?F ?N ?U ?d ?f ?_ ?z; (case F => k_asm); (case N => k_asm); (case U => k_updF); (case d => k_asm); (case f => k_asm); (case z => assumption); (case v => k_flat)); intro h' o' F' N' hd' hf'; (try dsimp only at N'); (try k_sweep)))
  (k_with "m M enter" => (refine wpAny_call ?_; k_dflt (refine' enter ?k1 ?k2 ?k3 ?k4 ?k5 ?kA ?kF ?kK ?k6 ?k7 ?k8 ?k9 ?kB ?_ ?c2 ?c3 ?c4 ?c5; (case kA => exact rfl); (case kF => exact rfl); (case kK => first | assumption | exact rfl); (case k1 => k_asm); (case k2 => k_asm); (case k3 => k_asm); (case k4 => k_asm); (case k5 => k_asm); (case k6 => k_is); (case k7 => k_is); (case k8 => (show (_ : Nat) < 1000; dsimp only; omega)); (case k9 => exact BindsTo.of_eq rfl); (case c5 => decide); (case kB => exact locs rfl); (case c2 => exact rfl); (case c3 => exact rfl); (case c4 => exact rfl); k_whole)))
  (k_with "m delItem ref str" => (k_here; k_dflt (refine' kt_del_K PyProof.V.same_str (strKind_is _ _ _ _) ?F ?N ?U ?d ?f ?l ?_ ?z; (case F => k_asm); (case N => k_asm); (case U => k_updF); (case d => k_asm); (case f => k_asm); (case l => first | with_reducible assumption | rfl); (case z => assumption)); intro h' o' F' N' hd' hf'; try dsimp only at N'))
  (k_with "m M room" => first | k_dflt exact room_le (k := 1) hdp rfl | k_dflt exact room_le (k := 0) hun rfl | k_dflt exact room_le (k := 1) hun rfl | k_dflt exact room_le (k := 2) hdp rfl | k_dflt exact room_le (k := 0) hdp rfl | ((try simp only [depth_mark, depth_under_make, depth_under_kw, depth_in1, depth_deeper, depth_caller, units_in1, units_deeper, Around.mark_units, units_caller]); (try dsimp only [ktrTop]); omega))
  (k_with "m subscriptTail" => (k_here; (with_reducible show wpAny _ _ (subscriptTail _ _ (Value.ref _) (Value.int (Nat.cast _) _)) _ _ _); (rename News _ _ _ (snap _ _) => mN); (rename St4 _ _ _ _ _ _ _ _ _ _ _ _ _ => mS); (have S9 := St4.at mS mN (fun _ h => h)); k_dflt (refine' item_els ?S ?hi ?_ ?hs ?hg; (case S => with_reducible exact S9); (case hi => omega); (case hs => with_unfolding_all rfl); (case hg => (intro _; with_unfolding_all rfl)); clear S9)))
  (k_with "m subscriptTail" => (k_here; (with_reducible show wpAny _ _ (subscriptTail _ _ (Value.ref _) (Value.int (Nat.cast _) _)) _ _ _); (rename News _ _ _ (snap _ _) => mN); (rename St4 _ _ _ _ _ _ _ _ _ _ _ _ _ => mS); (have S9 := St4.at mS mN (fun _ h => h)); k_dflt (refine' item_rss ?S ?hi ?_ ?hs ?hg; (case S => with_reducible exact S9); (case hi => omega); (case hs => with_unfolding_all rfl); (case hg => (intro _; with_unfolding_all rfl)); clear S9)))
  (k_with "m call ref" => (k_here; (with_reducible show wpAny _ _ (call (Value.ref 138) [_, _]) _ _ _); (rename Fr _ _ _ _ => mF); (rename News _ _ _ (snap _ _) => mN); (rename St4 _ _ _ _ _ _ _ _ _ _ _ _ _ => mS); k_dflt ((have S9 := St4.at mS mN (fun _ h => h)); refine' pull_spec ?k1 ?k2 ?k3 ?k4 ?hk ?hdp ?hun ?S ?k5 ?k6 ?k7 ?k8 ?k9 ?_; (case k1 => k_asm); (case k2 => exact mF); (case S => exact St4.well S9); (case k3 => k_asm); (case k4 => k_asm); (case k5 => omega); (case k6 => exact Off.mono (St4.off S9) (fun b hb => f4_h (two_four hb))); (case k7 => exact (St4.ne S9).1); (case k8 => decide); (case k9 => decide); (case hk => exact rfl); (case hdp => walk_at "M room"); (case hun => walk_at "M room"); (intro h' tk' t' r' sp' r1 r2 p1 p2 F' W' K'; (have S' := St4.pulled S9 W' K'); (have N' := St4.news S'); clear W' K' S9 mS mN mF; (try k_fold)))))
  (k_with "m call ref" => (k_here; (with_reducible show wpAny _ _ (call (Value.ref 138) [_, _]) _ _ _); (rename Fr _ _ _ _ => mF); (rename News _ _ _ (_ :: snap _ _) => mN); (rename St4 _ _ _ _ _ _ _ _ _ _ _ _ _ => mS); k_dflt ((have S9 := St4.at mS mN (fun _ h => .tail _ h)); refine' pull_spec ?k1 ?k2 ?k3 ?k4 ?hk ?hdp ?hun ?S ?k5 ?k6 ?k7 ?k8 ?k9 ?_; (case k1 => k_asm); (case k2 => exact mF); (case S => exact St4.well S9); (case k3 => k_asm); (case k4 => k_asm); (case k5 => omega); (case k6 => exact Off.mono (St4.off S9) (fun b hb => f4_h (two_four hb))); (case k7 => exact (St4.ne S9).1); (case k8 => decide); (case k9 => decide); (case hk => exact rfl); (case hdp => walk_at "M room"); (case hun => walk_at "M room"); (intro h' tk' t' r' sp' r1 r2 p1 p2 F' W' K'; (have S' := St4.pulled S9 W' K'); (have N' := news_D mN S9 K' S'); clear W' K' S9 mS mN mF; (try k_fold)))))
  (k_with "m subscriptTail" => (k_here; (with_reducible show wpAny _ _ (subscriptTail _ _ (Value.ref _) (Value.int _ _)) _ _ _); (rename News _ _ _ (_ :: snap _ _) => mN); k_dflt (refine item_D mN ?h0 ?h3 ?_ ?hs ?hg; (case h0 => omega); (case h3 => omega); (case hs => with_unfolding_all rfl); (case hg => (intro _; with_unfolding_all rfl)); intro x7 t7 hx7)))
  (k_with "m M fresh" => ((rename News _ _ _ _ => mN); (rename St4 _ _ _ _ _ _ _ _ _ _ _ _ _ => mS); (have S8 := St4.at mS mN (by first | exact fun _ h => h | exact fun _ h => .tail _ h)); clear mN mS; (have N8 := St4.news S8)))
  trivial
section
variable {w : World} {mean : ExcName → Option Value} {mg mb : Str → Option Value} {dp un : Nat} {gd : Option (List Code)} {cs : Scope} {a : Addr} {ccd : Value} {A₀ : Around} {base h₀ : Heap} {L : Addr} {m : Str → Option Value} {s : Shared} {Q E : Value → Shared → Prop} {Q9 : Flow → Shared → Prop}
  {x : Str} {tx : Tok} {v : Int} {tv : Tok} {R : Nat → RP} {P : Nat → EP} {wl rw el rs : Addr} {ex : List (Addr × Obj)} {xs : List Int} {sp : Int} {i : Nat} {tb : List Stmt} {lb : List Stmt} {r1 l1 e1 e2 e3 : Addr} {x1 x2 x3 : Str} {v1 v2 v3 : Int} {b1 b2 b3 c : Bool}
set_option maxRecDepth 100000 in
set_option maxHeartbeats 8000000 in
theorem turn_A
   (B : Below A₀ base [] h₀) (F : Fr h₀ L s.heap (fun y => if y = Str.ofString "deed" then some (.int v tv) else if y = Str.ofString "well" then some (.ref wl) else if y = Str.ofString "envs" then some (.ref el) else if y = Str.ofString "rows" then some (.ref rs) else m y)) (X : (hd.heap_39 w.params).In h₀) (T : Top VW LO mean mg mb h₀) (hb : bodyOf (hd.heap_39 w.params) 188 = lb) (hc : scopeOf (hd.heap_39 w.params) 188 = cs) (hdp : dp ≤ 310) (hun : un ≤ 20)
   (htb : forBody (nth lb 5) = tb)
   (S : St4 w h₀ L wl rw el rs ex xs P R sp s.heap) (hsp : sp < 9000)
   (k : ∀ kind tkd i tp x tx h' tk' sp', 0 ≤ kind → kind < 12 → 1 ≤ i → i < 4 → (x = Str.ofString "a" ∨ x = Str.ofString "b" ∨ x = Str.ofString ".h") → sp ≤ sp' → sp' ≤ sp + 3 → St4 w h₀ L wl rw el rs ex xs P R sp' h' → Fr h₀ L h' (fun y => if y = Str.ofString "row" then some (.ref (R i).r) else if y = Str.ofString "env" then some (.ref (P i).e) else if y = Str.ofString "name" then some (.str x tx) else if y = Str.ofString "place" then some (.int (i : Int) tp) else if y = Str.ofString "kind" then some (.int kind tkd) else if y = Str.ofString "deed" then some (.int v tv) else if y = Str.ofString "well" then some (.ref wl) else if y = Str.ofString "envs" then some (.ref el) else if y = Str.ofString "rows" then some (.ref rs) else m y) → wpAny (model PR w) (ktrTop dp un gd (Str.ofString "law") cs L a ccd [] []) (execs (tb.drop 5) (envOf (Str.ofString "law") cs L a ccd)) Q9 E { s with heap := h', toks := tk' })
   : wpAny (model PR w) (ktrTop dp un gd (Str.ofString "law") cs L a ccd [] []) (execs tb (envOf (Str.ofString "law") cs L a ccd)) Q9 E s := by
  refine lit_use hb hc (by k_is) ?_
  intro e1 e2
  subst e2
  subst e1
  simp only [nth_0, nth_s, forBody_for] at htb
  subst htb
  have N := S.news
  refine cut_cons fun Q1 n1 r1 => ?_
  k_steps
  refine n1 _ ?_
  dsimp only
  walk_at "M fresh"
  refine cut_cons fun Q2 n2 r2 => ?_
  k_steps
  refine n2 _ ?_
  dsimp only
  walk_at "M fresh"
  rename Fr _ _ _ _ => f9
  rename (0 : Int) ≤ _ => q0
  rename _ < (3 : Int) => q3
  obtain ⟨i, ei, i1, i4⟩ := to_nat q0 q3
  simp only [ei] at f9
  refine cut_cons fun Q3 n3 r3 => ?_
  k_steps
  refine n3 _ ?_
  dsimp only
  walk_at "M fresh"
  refine cut_cons fun Q4 n4 r4 => ?_
  k_steps
  refine n4 _ ?_
  dsimp only
  walk_at "M fresh"
  refine cut_cons fun Q5 n5 r5 => ?_
  k_steps
  refine n5 _ ?_
  dsimp only
  walk_at "M fresh"
  rename (_ = _ ∨ _ = _ ∨ _ = _) => hx
  rename _ < (12 : Int) => q12
  rename St4 _ _ _ _ _ _ _ _ _ _ _ _ _ => S8
  rename Fr _ _ _ _ => f8
  exact k _ _ _ _ _ _ _ _ _ (by assumption) q12 i1 i4 hx (by omega) (by omega) S8 f8
end
end
section
open PySem PySem.W PySem.Calls PyProof.Rows PyProof.V PySem.W.X
set_option linter.unusedVariables false
noncomputable def Nm (x : Str) : Prop := x = Str.ofString "a" ∨ x = Str.ofString "b" ∨ x = Str.ofString ".h"
theorem nodup_sub {α : Type} [DecidableEq α] : ∀ (l S : List α), l.Nodup → (∀ x ∈ l, x ∈ S) → l.length ≤ S.length
  | [], S, _, _ => Nat.zero_le _
  | a :: l, S, h, s => by
    have h' := List.nodup_cons.mp h
    have ih := nodup_sub l (S.erase a) h'.2 fun x hx => (List.mem_erase_of_ne (fun e : x = a => h'.1 (e ▸ hx))).mpr (s x (.tail _ hx))
    rw [List.length_erase_of_mem (s a (.head _))] at ih
    have : 0 < S.length := List.length_pos_of_mem (s a (.head _))
    simp only [List.length_cons]
    omega
structure GoodE (E : List Ent) : Prop where
  nd : (E.map (·.1)).Nodup
  nm : ∀ p ∈ E, Nm p.1
theorem GoodE.len {E : List Ent} (G : GoodE E) : E.length ≤ 3 := by
  have := nodup_sub (E.map (·.1)) [Str.ofString "a", Str.ofString "b", Str.ofString ".h"] G.nd fun x hx => by
    obtain ⟨p, hp, rfl⟩ := List.mem_map.mp hx
    rcases G.nm p hp with e | e | e <;> rw [e] <;> simp
  rw [List.length_map] at this
  exact this
theorem Nm.ok {x : Str} (h : Nm x) : PyData.strOk x = true := by
  rcases h with rfl | rfl | rfl <;> decide +kernel
theorem Nm.len {x : Str} (h : Nm x) : x.length ≤ 100 := by
  rcases h with rfl | rfl | rfl <;> decide +kernel
theorem GoodE.ok {E : List Ent} (G : GoodE E) : ∀ p ∈ E, PyData.strOk p.1 = true := fun p hp => (G.nm p hp).ok
theorem GoodE.put {E : List Ent} (G : GoodE E) {x : Str} (hx : Nm x) (v : Int) : GoodE (putE x v E) := ⟨putE_nodup G.nd, fun p hp => by
  have : p.1 ∈ (putE x v E).map (·.1) := List.mem_map_of_mem hp
  rw [putE_names] at this
  have old : p.1 ∈ E.map (·.1) → Nm p.1 := fun h => by
    obtain ⟨q, hq, e⟩ := List.mem_map.mp h
    exact e ▸ G.nm q hq
  split at this
  · exact old this
  · rcases List.mem_append.mp this with h | h
    · exact old h
    · rw [List.mem_singleton.mp h]; exact hx⟩
theorem GoodE.del {E : List Ent} (G : GoodE E) (x : Str) : GoodE (delE x E) := ⟨delE_nodup G.nd, fun p hp => G.nm p (List.mem_filter.mp hp).1⟩
theorem GoodE.lock {E : List Ent} (G : GoodE E) (x : Str) (b : Bool) : GoodE (lockE x b E) := ⟨by rw [lockE_names]; exact G.nd, fun p hp => by
  have : p.1 ∈ (lockE x b E).map (·.1) := List.mem_map_of_mem hp
  rw [lockE_names] at this
  obtain ⟨q, hq, e⟩ := List.mem_map.mp this
  exact e ▸ G.nm q hq⟩
theorem GoodE.bind {E : List Ent} (G : GoodE E) {x : Str} (hx : Nm x) (c : Bool) (v : Int) : GoodE (bindR E c x v).2 := by
  unfold bindR
  split
  · exact G
  · exact G.put hx v
  · split
    · exact G
    · exact G.put hx v
theorem GoodE.take {E : List Ent} (G : GoodE E) (x : Str) (c : Bool) : GoodE (takeR E c x).2 := by
  unfold takeR
  split
  · exact G
  · split
    · exact G
    · exact G.del x
structure Good (P : Nat → EP) (R : Nat → RP) (n : Nat) : Prop where
  tie : ∀ j < 4, (R j).E = (P j).E ∧ (R j).c = (P j).cl
  nm : ∀ j, 1 ≤ j → j < 4 → GoodE (P j).E
  base : (P 0).E = [(Str.ofString "b", 900, false), (Str.ofString "z", 901, false)]
  k : ∀ j < 4, (P j).k ≤ n
section
variable {P : Nat → EP} {R : Nat → RP} {n i j : Nat} {x : Str} {v kind : Int} {R' : RP} {p : EP}
theorem Good.mono (G : Good P R n) {n' : Nat} (h : n ≤ n') : Good P R n' := ⟨G.tie, G.nm, G.base, fun j hj => Nat.le_trans (G.k j hj) h⟩
theorem Good.set (G : Good P R n) (hi : 1 ≤ i) (hi' : i < 4) (hE : R'.E = p.E) (hc : R'.c = p.cl) (gE : GoodE p.E) (hk : p.k ≤ n + 1) : Good (setP P i p) (setR R i R') (n + 1) := by
  refine ⟨fun j hj => ?_, fun j h1 h2 => ?_, ?_, fun j hj => ?_⟩
  · unfold setP setR; split
    · exact ⟨hE, hc⟩
    · exact G.tie j hj
  · unfold setP; split
    · exact gE
    · exact G.nm j h1 h2
  · unfold setP; rw [if_neg (by omega)]; exact G.base
  · unfold setP; split
    · exact hk
    · exact Nat.le_succ_of_le (G.k j hj)
theorem Good.bind (G : Good P R n) (hi : 1 ≤ i) (hi' : i < 4) (hx : Nm x) (hE : R'.E = (bindR (R i).E (R i).c x v).2) (hc : R'.c = (R i).c) : Good (bindP P i x v) (setR R i R') (n + 1) := by
  have t := G.tie i hi'
  refine G.set hi hi' (by rw [hE, t.1, t.2]) (by rw [hc, t.2]) ((G.nm i hi hi').bind hx _ _) (Nat.succ_le_succ (G.k i hi'))
theorem Good.take (G : Good P R n) (hi : 1 ≤ i) (hi' : i < 4) (hE : R'.E = (takeR (R i).E (R i).c x).2) (hc : R'.c = (R i).c) : Good (setP P i { P i with E := (takeR (P i).E (P i).cl x).2 }) (setR R i R') (n + 1) := by
  have t := G.tie i hi'
  refine G.set hi hi' (by rw [hE, t.1, t.2]) (by rw [hc, t.2]) ((G.nm i hi hi').take _ _) (Nat.le_succ_of_le (G.k i hi'))
theorem Good.hold (G : Good P R n) : holdX (fun j => (R j).E) i x = holdR P i x := by
  rw [holdR_X]
  unfold holdX
  simp only [(G.tie 0 (by decide)).1, (G.tie 1 (by decide)).1, (G.tie 2 (by decide)).1]
theorem due1 (G : Good P R n) (hi' : i < 4) (a : kind < 4) : doneW kind P i x v = (bindR (R i).E (R i).c x v).1.getD (Str.ofString "") := by
  unfold doneW; rw [if_pos a, (G.tie i hi').1, (G.tie i hi').2]
theorem due2n (G : Good P R n) (a : ¬ kind < 4) (b : kind < 7) (h : holdX (fun j => (R j).E) i x = none) : doneW kind P i x v = lockedMsg x := by
  rw [G.hold] at h
  unfold doneW; rw [if_neg a, if_pos b]; unfold asgMsg; rw [h]; rfl
theorem due2s (G : Good P R n) (a : ¬ kind < 4) (b : kind < 7) (h : holdX (fun j => (R j).E) i x = some j) : doneW kind P i x v = (bindR (R j).E (R j).c x v).1.getD (Str.ofString "") := by
  rw [G.hold] at h
  have hj := holdR_lt h
  unfold doneW; rw [if_neg a, if_pos b]; unfold asgMsg; rw [h, (G.tie j hj.2).1, (G.tie j hj.2).2]
theorem due3 (G : Good P R n) (hi' : i < 4) (a : ¬ kind < 4) (b : ¬ kind < 7) : doneW kind P i x v = takeW (R i).E (R i).c x := by
  unfold doneW takeW; rw [if_neg a, if_neg b, (G.tie i hi').1, (G.tie i hi').2]
  all_goals (rcases (takeR (P i).E (P i).cl x).1 with _ | _ | _ <;> rfl)
theorem doneP_e (j : Nat) : (doneP kind P i x v j).e = (P j).e := by
  have bp : ∀ l, (bindP P l x v j).e = (P j).e := fun l => by unfold bindP setP; split <;> first | rfl | (rename_i q; rw [q])
  unfold doneP
  split
  · exact bp _
  · split
    · cases holdR P i x with
      | none => rfl
      | some l => exact bp _
    · unfold setP; split <;> first | rfl | (rename_i q; rw [q])
theorem good1 (G : Good P R n) (hi : 1 ≤ i) (hi' : i < 4) (hx : Nm x) (a : kind < 4) (hE : R'.E = (bindR (R i).E (R i).c x v).2) (hc : R'.c = (R i).c) : Good (doneP kind P i x v) (setR R i R') (n + 1) := by
  unfold doneP; rw [if_pos a]; exact G.bind hi hi' hx hE hc
theorem good2n (G : Good P R n) (a : ¬ kind < 4) (b : kind < 7) (h : holdX (fun j => (R j).E) i x = none) : Good (doneP kind P i x v) R (n + 1) := by
  rw [G.hold] at h
  unfold doneP; rw [if_neg a, if_pos b, h]; exact G.mono (Nat.le_succ _)
theorem good2s (G : Good P R n) (hx : Nm x) (a : ¬ kind < 4) (b : kind < 7) (h : holdX (fun j => (R j).E) i x = some j) (hE : R'.E = (bindR (R j).E (R j).c x v).2) (hc : R'.c = (R j).c) : Good (doneP kind P i x v) (setR R j R') (n + 1) := by
  rw [G.hold] at h
  have hj := holdR_lt h
  unfold doneP; rw [if_neg a, if_pos b, h]; exact G.bind hj.1 hj.2 hx hE hc
theorem good3 (G : Good P R n) (hi : 1 ≤ i) (hi' : i < 4) (a : ¬ kind < 4) (b : ¬ kind < 7) (hE : R'.E = (takeR (R i).E (R i).c x).2) (hc : R'.c = (R i).c) : Good (doneP kind P i x v) (setR R i R') (n + 1) := by
  unfold doneP; rw [if_neg a, if_neg b]; exact G.take hi hi' hE hc
theorem hold_lt (G : Good P R n) (h : holdX (fun j => (R j).E) i x = some j) : 1 ≤ j ∧ j < 4 := by
  rw [G.hold] at h; exact holdR_lt h
theorem Good.rE (G : Good P R n) (hi : 1 ≤ i) (hi' : i < 4) : GoodE (R i).E := by rw [(G.tie i hi').1]; exact G.nm i hi hi'
end
noncomputable def ifThen : Stmt → List Stmt | .If _ b _ _ => b | _ => []
noncomputable def ifElse : Stmt → List Stmt | .If _ _ b _ => b | _ => []
theorem ifThen_if (a : Expr) (b c : List Stmt) (p : Pos) : ifThen (.If a b c p) = b := rfl
theorem ifElse_if (a : Expr) (b c : List Stmt) (p : Pos) : ifElse (.If a b c p) = c := rfl
theorem ne_same {prog : Program} {w : World} {A : Around} {E : Value → Shared → Prop} {s : Shared} {x y : Str} {t u : Tok} {Q : Value → Shared → Prop} (e : x = y) (h : Q (.bool false) s) : wpAny (model prog w) A (compareOp .NotEq (.str x t) (.str y u)) Q E s := by
  subst e
  exact ne_str (by rw [bne_self_eq_false]; exact h)
end
section
open PySem PySem.W PySem.Calls PyProof.Rows PyProof.V PySem.W.X
set_option linter.unusedVariables false
section
variable {w : World} {mean : ExcName → Option Value} {mg mb : Str → Option Value} {dp un : Nat} {gd : Option (List Code)} {cn : Str} {cs : Scope} {a : Addr} {ccd : Value} {A₀ : Around} {base h₀ : Heap} {L wl rw el rs : Addr} {ex : List (Addr × Obj)} {m : Str → Option Value} {s : Shared} {Q E : Value → Shared → Prop}
  {x : Str} {tx : Tok} {v kind : Int} {tv tkd tp : Tok} {R : Nat → RP} {P : Nat → EP} {xs : List Int} {sp : Int} {i n : Nat}
theorem lb_done
   (B : Below A₀ base [] h₀) (F : Fr h₀ L s.heap m) (X : (hd.heap_39 w.params).In h₀) (T : Top VW LO mean mg mb h₀) (XB : (hd.heap_39 w.params).In base) (TB : Top VW LO mean mg mb base) (hk : cs.kind = .function) (hdp : dp ≤ 310) (hun : un ≤ 20)
   (S : St4 w h₀ L wl rw el rs ex xs P R sp s.heap) (G : Good P R n) (hn : n ≤ 10000) (hi : 1 ≤ i) (hi' : i < 4) (hx : Nm x)
   (k : ∀ h' tk' t, Fr h₀ L h' m → St4 w h₀ L wl rw el rs ex xs (doneP kind P i x v) R sp h' → Q (.str (doneW kind P i x v) t) { s with heap := h', toks := tk' })
   : wpAny (model PR w) (ktrTop dp un gd cn cs L a ccd [] []) (call (.ref 176) [.int kind tkd, .ref (P i).e, .str x tx, .int v tv, .ref (P 1).e]) Q E s :=
  done_spec B F X T XB TB hk (by omega) (by omega) S.env (Off.mono S.off fun _ h => f4_P h) hi hi' hx.len (fun j hj => Nat.le_trans (G.k j hj) hn) fun h' tk' t F' A' K' =>
    k h' tk' t F' (S.envs A' K' (fun b hb => List.mem_cons.mp hb) doneP_feet doneP_e)
theorem lb_bind
   (B : Below A₀ base [] h₀) (F : Fr h₀ L s.heap m) (X : (hd.heap_39 w.params).In h₀) (T : Top VW LO mean mg mb h₀) (hk : cs.kind = .function) (hdp : dp ≤ 310) (hun : un ≤ 20)
   (S : St4 w h₀ L wl rw el rs ex xs (doneP kind P i x v) R sp s.heap) (G : Good P R n) (hi : 1 ≤ i) (hi' : i < 4) (hx : Nm x) (ak : kind < 4)
   (k : ∀ h' tk' t R', Fr h₀ L h' m → St4 w h₀ L wl rw el rs ex xs (doneP kind P i x v) R' sp h' → Good (doneP kind P i x v) R' (n + 1) → Q (.str (doneW kind P i x v) t) { s with heap := h', toks := tk' })
   : wpAny (model PR w) (ktrTop dp un gd cn cs L a ccd [] []) (call (.ref 152) [.ref (R i).r, .str x tx, .int v tv]) Q E s := by
  have gE := (G.rE hi hi').bind hx (R i).c v
  refine bind_spec B F X T hk (by omega) (by omega) (S.rows.st i hi') (Off.mono S.off fun b hb => f4_R (mem_rfeet.mpr ⟨i, hi', hb⟩)) (S.rows.short i hi') hx.len fun h' tk' t R' F' to => ?_
  rw [← due1 (P := P) G hi' ak]
  exact k h' tk' t _ F' (S.row F hi' to gE.len gE.ok) (good1 G hi hi' hx ak to.E to.c)
theorem lb_up
   (B : Below A₀ base [] h₀) (F : Fr h₀ L s.heap m) (X : (hd.heap_39 w.params).In h₀) (T : Top VW LO mean mg mb h₀) (hk : cs.kind = .function) (hdp : dp ≤ 310) (hun : un ≤ 20)
   (S : St4 w h₀ L wl rw el rs ex xs (doneP kind P i x v) R sp s.heap) (G : Good P R n) (hi : 1 ≤ i) (hi' : i < 4) (hx : Nm x) (ak : ¬ kind < 4) (bk : kind < 7)
   (k : ∀ h' tk' t R', Fr h₀ L h' m → St4 w h₀ L wl rw el rs ex xs (doneP kind P i x v) R' sp h' → Good (doneP kind P i x v) R' (n + 1) → Q (.str (doneW kind P i x v) t) { s with heap := h', toks := tk' })
   : wpAny (model PR w) (ktrTop dp un gd cn cs L a ccd [] []) (call (.ref 164) [.ref rs, .int (i : Int) tp, .str x tx, .int v tv]) Q E s := by
  obtain ⟨nr, er⟩ := S.rss
  refine bup_spec B F X T hk (by omega) (by omega) S.rows er (Off.mono S.off fun b hb => ?_) (fun q => S.offR rs q (by simp)) hx.len hi hi' (fun h' tk' t hH F' K' => ?_) fun j h' tk' t R' hH F' to => ?_
  · rcases List.mem_cons.mp hb with rfl | hb
    · exact f4_h (by simp)
    · exact f4_R hb
  · rw [← due2n (P := P) G ak bk hH]
    exact k h' tk' t _ F' (S.keep fun b _ o e => K'.nil b o e) (good2n G ak bk hH)
  · have hj := hold_lt G hH
    have gE := (G.rE hj.1 hj.2).bind hx (R j).c v
    rw [← due2s (P := P) G ak bk hH]
    exact k h' tk' t _ F' (S.row F hj.2 to gE.len gE.ok) (good2s G hx ak bk hH to.E to.c)
theorem lb_take
   (B : Below A₀ base [] h₀) (F : Fr h₀ L s.heap m) (X : (hd.heap_39 w.params).In h₀) (T : Top VW LO mean mg mb h₀) (hk : cs.kind = .function) (hdp : dp ≤ 310) (hun : un ≤ 20)
   (S : St4 w h₀ L wl rw el rs ex xs (doneP kind P i x v) R sp s.heap) (G : Good P R n) (hi : 1 ≤ i) (hi' : i < 4) (hx : Nm x) (ak : ¬ kind < 4) (bk : ¬ kind < 7)
   (k : ∀ h' tk' t R', Fr h₀ L h' m → St4 w h₀ L wl rw el rs ex xs (doneP kind P i x v) R' sp h' → Good (doneP kind P i x v) R' (n + 1) → Q (.str (doneW kind P i x v) t) { s with heap := h', toks := tk' })
   : wpAny (model PR w) (ktrTop dp un gd cn cs L a ccd [] []) (call (.ref 169) [.ref (R i).r, .str x tx]) Q E s := by
  have gE := (G.rE hi hi').take x (R i).c
  refine take_spec B F X T hk (by omega) (by omega) (S.rows.st i hi') (Off.mono S.off fun b hb => f4_R (mem_rfeet.mpr ⟨i, hi', ?_⟩)) (S.rows.sok i hi') (Nat.le_trans (S.rows.short i hi') (by decide)) fun h' tk' t R' F' to => ?_
  · rcases el2 hb with z | z
    · rw [z]; exact .head _
    · rw [z]; exact .tail _ (.head _)
  rw [← due3 (P := P) G hi' ak bk]
  exact k h' tk' t _ F' (S.row F hi' to gE.len gE.ok) (good3 G hi hi' ak bk to.E to.c)
theorem lb_has
   (B : Below A₀ base [] h₀) (F : Fr h₀ L s.heap m) (X : (hd.heap_39 w.params).In h₀) (T : Top VW LO mean mg mb h₀) (hk : cs.kind = .function) (hdp : dp ≤ 310) (hun : un ≤ 20)
   (S : St4 w h₀ L wl rw el rs ex xs P R sp s.heap) (hi' : i < 4)
   (k : ∀ h' tk', Fr h₀ L h' m → St4 w h₀ L wl rw el rs ex xs P R sp h' → Q (.bool (has x (R i).E)) { s with heap := h', toks := tk' })
   : wpAny (model PR w) (ktrTop dp un gd cn cs L a ccd [] []) (call (.ref 157) [.ref (R i).r, .str x tx]) Q E s := by
  refine has_spec B F X T hk (by omega) (by omega) (S.rows.st i hi') (Off.mono S.off fun b hb => f4_R (mem_rfeet.mpr ⟨i, hi', ?_⟩)) (S.rows.sok i hi') (Nat.le_trans (S.rows.short i hi') (by decide)) fun h' tk' F' K' => ?_
  · rcases el2 hb with z | z
    · rw [z]; exact .head _
    · rw [z]; exact .tail _ (.head _)
  exact k h' tk' F' (S.keep fun b _ o e => K'.nil b o e)
end
end
section
open PySem PySem.W PySem.Calls PyProof.Rows PyProof.V PySem.W.X
set_option linter.unusedVariables false
section
variable {w : World} {h₀ h h' : Heap} {L wl rw el rs : Addr} {ex : List (Addr × Obj)} {xs : List Int} {P : Nat → EP} {R : Nat → RP} {sp : Int} {i : Nat}
theorem St4.place (S : St4 w h₀ L wl rw el rs ex xs P R sp h) (hi : i < 4) {p : EP} {R' : RP} {A : List Addr} (hA : ∀ b ∈ A, b ∈ (P i).foot ∨ b ∈ (R i).foot)
    (k : ∀ b ∈ foot4 wl rw el rs ex P R, b ∉ A → ∀ o, h.get? b = some o → h'.get? b = some o) (Sp : EnvSt w p h') (Sr : RowSt R' h')
    (hf : p.foot = (P i).foot) (hn : p.num = (P i).num) (hp : p.par = (P i).par) (he : p.e = (P i).e) (hr : R'.r = (R i).r) (hF : R'.foot = (R i).foot) (h3 : R'.D.length ≤ 3) (ok : ∀ p ∈ R'.D, PyData.strOk p.2.1 = true) :
    St4 w h₀ L wl rw el rs ex xs (setP P i p) (setR R i R') sp h' := by
  have hP : ∀ b ∈ (P i).foot, b ∈ feet P := fun b hb => mem_feet.mpr ⟨i, hi, hb⟩
  have hR : ∀ b ∈ (R i).foot, b ∈ rfeet R := fun b hb => mem_rfeet.mpr ⟨i, hi, hb⟩
  have ft : ∀ j, (setP P i p j).foot = (P j).foot := setP_of EP.foot hf
  have ee : ∀ j, (setP P i p j).e = (P j).e := setP_of EP.e he
  have pp : ∀ j, (setP P i p j).par = (P j).par := setP_of EP.par hp
  have nn : ∀ j, (setP P i p j).num = (P j).num := setP_of EP.num hn
  have rr : ∀ j, (setR R i R' j).r = (R j).r := fun j => by unfold setR; split <;> first | rfl | (rename_i q; rw [hr, q])
  have rF : ∀ j, (setR R i R' j).foot = (R j).foot := fun j => by unfold setR; split <;> first | rfl | (rename_i q; rw [hF, q])
  have fP : feet (setP P i p) = feet P := setP_feet hf
  have fR : rfeet (setR R i R') = rfeet R := by unfold rfeet; rw [rF, rF, rF, rF]
  have f4 : foot4 wl rw el rs ex (setP P i p) (setR R i R') = foot4 wl rw el rs ex P R := by unfold foot4; rw [fP, fR]
  have hh : ∀ b ∈ [wl, rw, el, rs], b ∉ A := fun b hb q => by
    rcases hA b q with z | z
    · exact S.offP b (hP b z) hb
    · exact S.offR b (hR b z) hb
  have hPn : ∀ j < 4, j ≠ i → ∀ b ∈ (P j).foot, b ∉ A := fun j hj ne b hb q => by
    rcases hA b q with z | z
    · exact S.env.apart j hj i hi ne b hb z
    · exact S.apart b (mem_feet.mpr ⟨j, hj, hb⟩) (hR b z)
  have hRn : ∀ j < 4, j ≠ i → ∀ b ∈ (R j).foot, b ∉ A := fun j hj ne b hb q => by
    rcases hA b q with z | z
    · exact S.apart b (hP b z) (mem_rfeet.mpr ⟨j, hj, hb⟩)
    · exact S.rows.apart j hj i hi ne b hb z
  refine ⟨⟨fun j hj => ?_, fun j hj => by rw [nn]; exact S.env.num j hj, by rw [pp]; exact S.env.par0, fun j hj => by rw [pp, ee]; exact S.env.par j hj, fun j hj l hl ne => by rw [ft, ft]; exact S.env.apart j hj l hl ne⟩,
    ⟨fun j hj => ?_, fun j hj l hl ne => by rw [rF, rF]; exact S.rows.apart j hj l hl ne, fun j hj => ?_, fun j hj => ?_⟩, S.well.keep fun b hb o e => k b (f4_h (two_four hb)) (hh b (two_four hb)) o e, ?_, ?_, by rw [f4]; exact S.off, S.heads, by rw [fP]; exact S.offP, by rw [fR]; exact S.offR, by rw [fP, fR]; exact S.apart, fun p hp => k _ (f4_X hp) (fun q => ?_) _ (S.ext p hp), by rw [fP, fR]; exact S.offX⟩
  · unfold setP; split
    · exact Sp
    · rename_i ne; exact (S.env.st j hj).keep fun b hb o e => k b (f4_P (mem_feet.mpr ⟨j, hj, hb⟩)) (hPn j hj ne b hb) o e
  · unfold setR; split
    · exact Sr
    · rename_i ne; exact (S.rows.st j hj).keep fun b hb o e => k b (f4_R (mem_rfeet.mpr ⟨j, hj, hb⟩)) (hRn j hj ne b hb) o e
  · unfold setR; split
    · exact h3
    · exact S.rows.short j hj
  · unfold setR; split
    · exact ok
    · exact S.rows.sok j hj
  · obtain ⟨n, e⟩ := S.els; exact ⟨n, by rw [ee, ee, ee, ee]; exact k _ (f4_h (by simp)) (hh _ (by simp)) _ e⟩
  · obtain ⟨n, e⟩ := S.rss; exact ⟨n, by unfold rowsOf at e ⊢; rw [rr, rr, rr, rr]; exact k _ (f4_h (by simp)) (hh _ (by simp)) _ e⟩
  · rcases hA _ q with z | z
    · exact (S.offX p hp).2.1 (hP _ z)
    · exact (S.offX p hp).2.2 (hR _ z)
theorem tog_close (S : St4 w h₀ L wl rw el rs ex xs P R sp h) (hi : i < 4) {eD : ED} {nr : Nat} {b : Bool}
    (N : News h₀ L h' (((P i).e, instObj 127 (P i).ed) :: ((P i).ed, envD eD (P i).num (P i).par (P i).f b (P i).l) :: ((R i).r, PySem.W.listOf #[.ref (R i).l, .bool b] nr) :: rest h (foot4 wl rw el rs ex P R) [(P i).e, (P i).ed, (R i).r])) :
    St4 w h₀ L wl rw el rs ex xs (setP P i { P i with cl := b }) (setR R i { R i with c := b }) sp h' := by
  have Se := S.env.st i hi
  have Sr := S.rows.st i hi
  have kk := rest_get N (fun p hp => .tail _ (.tail _ (.tail _ hp)))
  have hP : ∀ b ∈ (P i).foot, b ∈ feet P := fun b hb => mem_feet.mpr ⟨i, hi, hb⟩
  have hR : ∀ b ∈ (R i).foot, b ∈ rfeet R := fun b hb => mem_rfeet.mpr ⟨i, hi, hb⟩
  have nP : ∀ b ∈ (P i).foot, b ≠ (P i).e → b ≠ (P i).ed → b ∉ [(P i).e, (P i).ed, (R i).r] := fun b hb n1 n2 q => by
    rcases el3 q with q | q | q
    · exact n1 q
    · exact n2 q
    · exact S.apart b (hP b hb) (q ▸ hR _ (.head _))
  have nR : ∀ b ∈ (R i).foot, b ≠ (R i).r → b ∉ [(P i).e, (P i).ed, (R i).r] := fun b hb n1 q => by
    rcases el3 q with q | q | q
    · exact S.apart b (hP b (q ▸ .head _)) (hR b hb)
    · exact S.apart b (hP b (q ▸ .tail _ (.head _))) (hR b hb)
    · exact n1 q
  have ap := Se.apart
  simp only [EP.foot, List.nodup_cons, List.mem_cons, List.not_mem_nil, or_false, not_or, List.nodup_nil, and_true, not_false_eq_true] at ap
  have ar := Sr.apart
  unfold RP.foot at ar
  rw [List.nodup_cons] at ar
  refine S.place hi (A := [(P i).e, (P i).ed, (R i).r]) (fun b hb => ?_) kk ⟨(N _ (.head _)).1, ⟨eD, (N _ (.tail _ (.head _))).1⟩, ?_, ?_, Se.names, Se.size, Se.lowf, Se.lowl, Se.apart⟩ ⟨⟨nr, (N _ (.tail _ (.tail _ (.head _)))).1⟩, ?_, fun p hp => ?_, Sr.apart⟩ rfl rfl rfl rfl rfl rfl (S.rows.short i hi) (S.rows.sok i hi)
  · rcases el3 hb with z | z | z
    · rw [z]; exact .inl (.head _)
    · rw [z]; exact .inl (.tail _ (.head _))
    · rw [z]; exact .inr (.head _)
  · obtain ⟨o, kvs, e, r⟩ := Se.frame
    exact ⟨o, kvs, kk _ (f4_P (hP _ (.tail _ (.tail _ (.head _))))) (nP _ (.tail _ (.tail _ (.head _))) (fun q => ap.1.2.1 q.symm) (fun q => ap.2.1.1 q.symm)) _ e, r⟩
  · obtain ⟨o, kvs, D, e, r⟩ := Se.locks
    exact ⟨o, kvs, D, kk _ (f4_P (hP _ (.tail _ (.tail _ (.tail _ (.head _)))))) (nP _ (.tail _ (.tail _ (.tail _ (.head _)))) (fun q => ap.1.2.2 q.symm) (fun q => ap.2.1.2 q.symm)) _ e, r⟩
  · obtain ⟨n, e⟩ := Sr.lst
    exact ⟨n, kk _ (f4_R (hR _ (.tail _ (.head _)))) (nR _ (.tail _ (.head _)) fun q => ar.1 (q ▸ .head _)) _ e⟩
  · obtain ⟨t, u, n, e⟩ := Sr.ents p hp
    have hm : p.1 ∈ (R i).foot := .tail _ (.tail _ (List.mem_map_of_mem hp))
    exact ⟨t, u, n, kk _ (f4_R (hR _ hm)) (nR _ hm (Sr.off p hp).1) _ e⟩
theorem Good.tog {n : Nat} (G : Good P R n) (hi : 1 ≤ i) (hi' : i < 4) {b b' : Bool} (hb : b = b') : Good (setP P i { P i with cl := b }) (setR R i { R i with c := b' }) (n + 1) :=
  G.set hi hi' (G.tie i hi').1 hb.symm (G.nm i hi hi') (Nat.le_succ_of_le (G.k i hi'))
noncomputable def lockD (x : Str) (b : Bool) (D : List (Addr × Ent)) : List (Addr × Ent) := D.map fun p => if p.2.1 = x then (p.1, (p.2.1, p.2.2.1, b)) else p
theorem lockD_E (x : Str) (b : Bool) (D : List (Addr × Ent)) : (lockD x b D).map (·.2) = lockE x b (D.map (·.2)) := by
  unfold lockD lockE
  rw [List.map_map, List.map_map]
  apply List.map_congr_left
  intro p _
  simp only [Function.comp]
  split <;> rfl
theorem lockD_fst (x : Str) (b : Bool) (D : List (Addr × Ent)) : (lockD x b D).map (·.1) = D.map (·.1) := by
  unfold lockD
  rw [List.map_map]
  apply List.map_congr_left
  intro p _
  simp only [Function.comp]
  split <;> rfl
theorem frmD_lock (x : Str) (b : Bool) (E : List Ent) : frmD (lockE x b E) = frmD E := by
  unfold frmD lockE
  rw [List.map_map]
  apply List.map_congr_left
  intro p _
  simp only [Function.comp]
  split <;> rfl
theorem Good.lock {n : Nat} (G : Good P R n) (hi : 1 ≤ i) (hi' : i < 4) {x : Str} {b : Bool} {D' : List (Addr × Ent)} (hD : D' = lockD x b (R i).D) : Good (setP P i { P i with E := lockE x b (P i).E, k := (P i).k + 1 }) (setR R i { R i with D := D' }) (n + 1) := by
  subst hD
  refine G.set hi hi' ?_ (G.tie i hi').2 ((G.nm i hi hi').lock x b) (Nat.succ_le_succ (G.k i hi'))
  unfold RP.E
  rw [lockD_E]
  have := (G.tie i hi').1
  unfold RP.E at this
  rw [this]
end
end
section
open PySem PySem.W PySem.Calls PyProof.Rows PyProof.V PySem.W.X
set_option linter.unusedVariables false
theorem said_TurnT_1 : True := by
  k_with_none
  (k_with "m binaryOp Add str str" => (k_here; (with_reducible show wpAny _ _ (binaryOp Operator.Add (Value.str _ _) (Value.str _ _)) _ _ _); (refine' PyProof.Rows.add_str ?hh ?hsz; (case hsz => (have e1 := litA; have e2 := litB; have e3 := sz_line; (try rw [StrLaws.length_append]); omega)); intro t9 k9)))
  (k_with "m k_room" => first | k_dflt exact room_lt (k := 1) hdp rfl | k_dflt exact room_lt (k := 2) hdp rfl | k_dflt exact room_lt (k := 3) hdp rfl | k_dflt exact room_lt (k := 4) hdp rfl | k_dflt exact room_lt (k := 0) hdp rfl | decide | ((try simp only [depth_mark, depth_under_make, depth_under_kw, depth_in1, depth_deeper, depth_caller]); (try dsimp only [ktrTop]); (show (_ : Nat) < 1000); omega))
  (k_with "m k_units" => first | k_dflt exact unit_lt (k := 0) hun rfl | k_dflt exact unit_lt (k := 1) hun rfl | k_dflt exact unit_lt (k := 2) hun rfl | exact Nat.le_of_ble_eq_true rfl | ((try simp only [units_in1, units_deeper, Around.mark_units, units_caller]); (try dsimp only [ktrTop]); (show (_ : Nat) < 9900); omega))
  (k_with "m exec Raise some none" => (k_here; k_dflt (refine' raise_own ?hh ?_; (case hh => exact rfl))))
  (k_with "m call ref" => (k_here; (with_reducible show wpAny _ _ (call (Value.ref 44) [Value.str _ _]) _ _ _); (rename Fr _ _ _ _ => mF); k_dflt ((refine mk_K (by k_asm) mF (by k_asm) (by k_asm) (by (show (_ : Nat) ≤ 400; dsimp only; omega)) ?_); intro e dx t h' tk hh tm n F' N' st e1 e2 ne X'; (refine ⟨_, _, _, rfl, (N' _ (List.Mem.head _)).1, X', ?_⟩); (try k_unfold); (try dsimp only); (refine leave_refused (by k_asm) mF e1 e2 F' (N' _ (List.Mem.head _)).1 (N' _ (List.Mem.tail _ (List.Mem.head _))).1 (by first | assumption | exact stays_of (by assumption) mF (by k_asm)) st (by assumption) ?_ (by rfl)); intro h9 R9; (try dsimp only))))
  (k_with "m setItem ref str" => (k_here; k_dflt (refine' setItem_K PyProof.V.same_str (strKind_is _ _ _ _) ?v ?F ?N ?U ?d ?f ?_ ?z; (case F => k_asm); (case N => k_asm); (case U => k_updF); (case d => k_asm); (case f => k_asm); (case z => assumption); (case v => k_flat)); intro h' o' F' N' hd' hf'; (try dsimp only at N'); (try k_sweep)))
  (k_with "m M enter" => (refine wpAny_call ?_; k_dflt (refine' enter ?k1 ?k2 ?k3 ?k4 ?k5 ?kA ?kF ?kK ?k6 ?k7 ?k8 ?k9 ?kB ?_ ?c2 ?c3 ?c4 ?c5; (case kA => exact rfl); (case kF => exact rfl); (case kK => first | assumption | exact rfl); (case k1 => k_asm); (case k2 => k_asm); (case k3 => k_asm); (case k4 => k_asm); (case k5 => k_asm); (case k6 => k_is); (case k7 => k_is); (case k8 => (show (_ : Nat) < 1000; dsimp only; omega)); (case k9 => exact BindsTo.of_eq rfl); (case c5 => decide); (case kB => exact locs rfl); (case c2 => exact rfl); (case c3 => exact rfl); (case c4 => exact rfl); k_whole)))
  (k_with "m delItem ref str" => (k_here; k_dflt (refine' kt_del_K PyProof.V.same_str (strKind_is _ _ _ _) ?F ?N ?U ?d ?f ?l ?_ ?z; (case F => k_asm); (case N => k_asm); (case U => k_updF); (case d => k_asm); (case f => k_asm); (case l => first | with_reducible assumption | rfl); (case z => assumption)); intro h' o' F' N' hd' hf'; try dsimp only at N'))
  (k_with "m M room" => first | k_dflt exact room_le (k := 1) hdp rfl | k_dflt exact room_le (k := 0) hun rfl | k_dflt exact room_le (k := 1) hun rfl | k_dflt exact room_le (k := 2) hdp rfl | k_dflt exact room_le (k := 0) hdp rfl | ((try simp only [depth_mark, depth_under_make, depth_under_kw, depth_in1, depth_deeper, depth_caller, units_in1, units_deeper, Around.mark_units, units_caller]); (try dsimp only [ktrTop]); omega))
  (k_with "m k_all" => with_reducible assumption)
  trivial
theorem locked_put {hh h1 h2 h3 h4 h5 h6 h7 : Int} {t1 t2 t3 t4 t5 t6 t7 tk tn tq : Tok} {num : Int} {par : Value} {fr : Addr} {lk lk' : Bool} {ls : Addr} {n : Nat} :
    (putL (Str.ofString "locked") hh (.str (Str.ofString "locked") tq) (.bool lk') [⟨h1, .str "kind" t1, .str "environment" tk⟩, ⟨h2, .str "number" t2, .int num tn⟩, ⟨h3, .str "parent" t3, par⟩, ⟨h4, .str "attrs" t4, .none⟩, ⟨h5, .str "frame" t5, .ref fr⟩, ⟨h6, .str "locked" t6, .bool lk⟩, ⟨h7, .str "locks" t7, .ref ls⟩],
     putN (Str.ofString "locked") [⟨h1, .str "kind" t1, .str "environment" tk⟩, ⟨h2, .str "number" t2, .int num tn⟩, ⟨h3, .str "parent" t3, par⟩, ⟨h4, .str "attrs" t4, .none⟩, ⟨h5, .str "frame" t5, .ref fr⟩, ⟨h6, .str "locked" t6, .bool lk⟩, ⟨h7, .str "locks" t7, .ref ls⟩] n) =
    ([⟨h1, .str "kind" t1, .str "environment" tk⟩, ⟨h2, .str "number" t2, .int num tn⟩, ⟨h3, .str "parent" t3, par⟩, ⟨h4, .str "attrs" t4, .none⟩, ⟨h5, .str "frame" t5, .ref fr⟩, ⟨h6, .str "locked" t6, .bool lk'⟩, ⟨h7, .str "locks" t7, .ref ls⟩], n) := rfl
theorem said_TurnT_2 : True := by
  (k_with "m setAttr ref" => (k_here; k_dflt (refine' set_dict ?k1 ?k2 ?k3 ?k4 ?k5 ?k6 ?k7 ?k8 ?k9 ?k10 ?k11 ?k12 ?k13 ?_; (case k1 => k_asm); (case k2 => k_asm); (case k3 => k_asm); (case k4 => k_inst); (case k5 => exact rfl); (case k6 => k_is); (case k7 => k_is); (case k8 => k_is); (case k9 => k_is); (case k10 => k_get); (case k11 => exact locked_put); (case k12 => k_upd); (case k13 => exact Nat.le_of_ble_eq_true rfl)); intro h' F' N'))
  trivial
section
variable {w : World} {mean : ExcName → Option Value} {mg mb : Str → Option Value} {dp un : Nat} {gd : Option (List Code)} {cs : Scope} {a : Addr} {ccd : Value} {A₀ : Around} {base h₀ : Heap} {L : Addr} {m : Str → Option Value} {s : Shared} {Q E : Value → Shared → Prop} {Q9 : Flow → Shared → Prop} {kind : Int} {tkd tp : Tok} {n : Nat}
  {x : Str} {tx : Tok} {v : Int} {tv : Tok} {R : Nat → RP} {P : Nat → EP} {wl rw el rs : Addr} {ex : List (Addr × Obj)} {xs : List Int} {sp : Int} {i : Nat} {tb : List Stmt} {lb : List Stmt} {r1 l1 e1 e2 e3 : Addr} {x1 x2 x3 : Str} {v1 v2 v3 : Int} {b1 b2 b3 c : Bool}
set_option maxRecDepth 100000 in
set_option maxHeartbeats 8000000 in
theorem toggle_spec
   (B : Below A₀ base [] h₀) (F : Fr h₀ L s.heap (fun y => if y = Str.ofString "row" then some (.ref (R i).r) else if y = Str.ofString "env" then some (.ref (P i).e) else if y = Str.ofString "name" then some (.str x tx) else if y = Str.ofString "place" then some (.int (i : Int) tp) else if y = Str.ofString "kind" then some (.int kind tkd) else if y = Str.ofString "deed" then some (.int v tv) else if y = Str.ofString "well" then some (.ref wl) else if y = Str.ofString "envs" then some (.ref el) else if y = Str.ofString "rows" then some (.ref rs) else m y)) (X : (hd.heap_39 w.params).In h₀) (T : Top VW LO mean mg mb h₀) (hb : bodyOf (hd.heap_39 w.params) 188 = lb) (hc : scopeOf (hd.heap_39 w.params) 188 = cs) (hdp : dp ≤ 310) (hun : un ≤ 20)
   (htb : ifThen (nth (ifElse (nth (forBody (nth lb 5)) 5)) 0) = tb)
   (S : St4 w h₀ L wl rw el rs ex xs P R sp s.heap) (G : Good P R n) (i1 : 1 ≤ i) (i4 : i < 4)
   (k : ∀ h' tk' P' R', St4 w h₀ L wl rw el rs ex xs P' R' sp h' → Good P' R' (n + 1) → Fr h₀ L h' (fun y => if y = Str.ofString "row" then some (.ref (R i).r) else if y = Str.ofString "env" then some (.ref (P i).e) else if y = Str.ofString "name" then some (.str x tx) else if y = Str.ofString "place" then some (.int (i : Int) tp) else if y = Str.ofString "kind" then some (.int kind tkd) else if y = Str.ofString "deed" then some (.int v tv) else if y = Str.ofString "well" then some (.ref wl) else if y = Str.ofString "envs" then some (.ref el) else if y = Str.ofString "rows" then some (.ref rs) else m y) → Q9 .next { s with heap := h', toks := tk' })
   : wpAny (model PR w) (ktrTop dp un gd (Str.ofString "law") cs L a ccd [] []) (execs tb (envOf (Str.ofString "law") cs L a ccd)) Q9 E s := by
  refine lit_use hb hc (by k_is) ?_
  intro e1 e2
  subst e2
  subst e1
  simp only [nth_0, nth_s, forBody_for, ifElse_if, ifThen_if] at htb
  subst htb
  have Se := S.env.st i i4
  have Sr := S.rows.st i i4
  obtain ⟨eD, Ed⟩ := Se.idict
  obtain ⟨nr, Er⟩ := Sr.row
  have Ei := Se.inst
  have ap := Se.apart
  have me : ∀ b ∈ (P i).foot, b ∈ foot4 wl rw el rs ex P R := fun b hb => f4_P (mem_feet.mpr ⟨i, i4, hb⟩)
  have mr : (R i).r ∈ rfeet R := mem_rfeet.mpr ⟨i, i4, .head _⟩
  have o1 := S.off (P i).e (me _ (.head _))
  have o2 := S.off (P i).ed (me _ (.tail _ (.head _)))
  have o3 := S.off (R i).r (f4_R mr)
  have d1 : @Ne Nat (P i).e (P i).ed := fun q => by simp [EP.foot, show (P i).e = (P i).ed from q] at ap
  have d2 : @Ne Nat (P i).e (R i).r := fun q => S.apart (P i).e (mem_feet.mpr ⟨i, i4, .head _⟩) (by rw [show (P i).e = (R i).r from q]; exact mr)
  have d3 : @Ne Nat (P i).ed (R i).r := fun q => S.apart (P i).ed (mem_feet.mpr ⟨i, i4, .tail _ (.head _)⟩) (by rw [show (P i).ed = (R i).r from q]; exact mr)
  obtain ⟨tl, etl⟩ : ∃ tl, tl = rest s.heap (foot4 wl rw el rs ex P R) [(P i).e, (P i).ed, (R i).r] := ⟨_, rfl⟩
  have x1 : ∀ p ∈ tl, p.1 ≠ (P i).e := etl ▸ rest_ne (.head _)
  have x2 : ∀ p ∈ tl, p.1 ≠ (P i).ed := etl ▸ rest_ne (.tail _ (.head _))
  have x3 : ∀ p ∈ tl, p.1 ≠ (R i).r := etl ▸ rest_ne (.tail _ (.tail _ (.head _)))
  have N : News h₀ L s.heap (((P i).e, instObj 127 (P i).ed) :: ((P i).ed, envD eD (P i).num (P i).par (P i).f (P i).cl (P i).l) :: ((R i).r, PySem.W.listOf #[.ref (R i).l, .bool (R i).c] nr) :: tl) :=
    nc ⟨Ei, o1⟩ (nc ⟨Ed, o2⟩ (nc ⟨Er, o3⟩ (etl ▸ rest_news S.off)))
  clear me mr o1 o2 o3 ap Ei Er Ed hb hc
  have Sx := S
  clear S
  k_steps
  all_goals
    dsimp only
    rename News _ _ _ _ => n9
    rename Fr _ _ _ _ => f9
    rw [show (!(R i).c) = !(P i).cl by rw [(G.tie i i4).2], etl] at n9
    exact k _ _ _ _ (tog_close Sx i4 n9) (Good.tog G i1 i4 rfl) f9
end
end
section
open PySem PySem.W PySem.Calls PyProof.Rows PyProof.V PySem.W.X
set_option linter.unusedVariables false
theorem said_Lock_1 : True := by
  k_with_none
  (k_with "m binaryOp Add str str" => (k_here; (with_reducible show wpAny _ _ (binaryOp Operator.Add (Value.str _ _) (Value.str _ _)) _ _ _); (refine' PyProof.Rows.add_str ?hh ?hsz; (case hsz => (have e1 := litA; have e2 := litB; have e3 := sz_line; (try rw [StrLaws.length_append]); omega)); intro t9 k9)))
  (k_with "m k_room" => first | k_dflt exact room_lt (k := 1) hdp rfl | k_dflt exact room_lt (k := 2) hdp rfl | k_dflt exact room_lt (k := 3) hdp rfl | k_dflt exact room_lt (k := 4) hdp rfl | k_dflt exact room_lt (k := 0) hdp rfl | decide | ((try simp only [depth_mark, depth_under_make, depth_under_kw, depth_in1, depth_deeper, depth_caller]); (try dsimp only [ktrTop]); (show (_ : Nat) < 1000); omega))
  (k_with "m k_units" => first | k_dflt exact unit_lt (k := 0) hun rfl | k_dflt exact unit_lt (k := 1) hun rfl | k_dflt exact unit_lt (k := 2) hun rfl | exact Nat.le_of_ble_eq_true rfl | ((try simp only [units_in1, units_deeper, Around.mark_units, units_caller]); (try dsimp only [ktrTop]); (show (_ : Nat) < 9900); omega))
  (k_with "m exec Raise some none" => (k_here; k_dflt (refine' raise_own ?hh ?_; (case hh => exact rfl))))
  (k_with "m call ref" => (k_here; (with_reducible show wpAny _ _ (call (Value.ref 44) [Value.str _ _]) _ _ _); (rename Fr _ _ _ _ => mF); k_dflt ((refine mk_K (by k_asm) mF (by k_asm) (by k_asm) (by (show (_ : Nat) ≤ 400; dsimp only; omega)) ?_); intro e dx t h' tk hh tm n F' N' st e1 e2 ne X'; (refine ⟨_, _, _, rfl, (N' _ (List.Mem.head _)).1, X', ?_⟩); (try k_unfold); (try dsimp only); (refine leave_refused (by k_asm) mF e1 e2 F' (N' _ (List.Mem.head _)).1 (N' _ (List.Mem.tail _ (List.Mem.head _))).1 (by first | assumption | exact stays_of (by assumption) mF (by k_asm)) st (by assumption) ?_ (by rfl)); intro h9 R9; (try dsimp only))))
  (k_with "m setItem ref str" => (k_here; k_dflt (refine' setItem_K PyProof.V.same_str (strKind_is _ _ _ _) ?v ?F ?N ?U ?d ?f ?_ ?z; (case F => k_asm); (case N => k_asm); (case U => k_updF); (case d => k_asm); (case f => k_asm); (case z => assumption); (case v => k_flat)); intro h' o' F' N' hd' hf'; (try dsimp only at N'); (try k_sweep)))
  (k_with "m M enter" => (refine wpAny_call ?_; k_dflt (refine' enter ?k1 ?k2 ?k3 ?k4 ?k5 ?kA ?kF ?kK ?k6 ?k7 ?k8 ?k9 ?kB ?_ ?c2 ?c3 ?c4 ?c5; (case kA => exact rfl); (case kF => exact rfl); (case kK => first | assumption | exact rfl); (case k1 => k_asm); (case k2 => k_asm); (case k3 => k_asm); (case k4 => k_asm); (case k5 => k_asm); (case k6 => k_is); (case k7 => k_is); (case k8 => (show (_ : Nat) < 1000; dsimp only; omega)); (case k9 => exact BindsTo.of_eq rfl); (case c5 => decide); (case kB => exact locs rfl); (case c2 => exact rfl); (case c3 => exact rfl); (case c4 => exact rfl); k_whole)))
  (k_with "m delItem ref str" => (k_here; k_dflt (refine' kt_del_K PyProof.V.same_str (strKind_is _ _ _ _) ?F ?N ?U ?d ?f ?l ?_ ?z; (case F => k_asm); (case N => k_asm); (case U => k_updF); (case d => k_asm); (case f => k_asm); (case l => first | with_reducible assumption | rfl); (case z => assumption)); intro h' o' F' N' hd' hf'; try dsimp only at N'))
  (k_with "m M room" => first | k_dflt exact room_le (k := 1) hdp rfl | k_dflt exact room_le (k := 0) hun rfl | k_dflt exact room_le (k := 1) hun rfl | k_dflt exact room_le (k := 2) hdp rfl | k_dflt exact room_le (k := 0) hdp rfl | ((try simp only [depth_mark, depth_under_make, depth_under_kw, depth_in1, depth_deeper, depth_caller, units_in1, units_deeper, Around.mark_units, units_caller]); (try dsimp only [ktrTop]); omega))
  (k_with "m k_all" => with_reducible assumption)
  trivial
section
variable {w : World} {mean : ExcName → Option Value} {mg mb : Str → Option Value} {dp un : Nat} {gd : Option (List Code)} {cs : Scope} {a : Addr} {ccd : Value} {A₀ : Around} {base h₀ : Heap} {L : Addr} {m : Str → Option Value} {s : Shared} {Q E : Value → Shared → Prop} {Q9 : Flow → Shared → Prop} {kind : Int} {tkd tp : Tok} {n : Nat} {e : Addr} {y : Str} {ty : Tok} {v1 : Int} {u1 : Tok} {b0 : Bool} {nn : Nat} {tl : List (Addr × Obj)}
  {x : Str} {tx : Tok} {v : Int} {tv : Tok} {R : Nat → RP} {P : Nat → EP} {wl rw el rs : Addr} {ex : List (Addr × Obj)} {xs : List Int} {sp : Int} {i : Nat} {tb : List Stmt} {st : Stmt} {lb : List Stmt} {r1 l1 e1 e2 e3 : Addr} {x1 x2 x3 : Str} {v2 v3 : Int} {b1 b2 b3 c : Bool}
noncomputable def lockStmts (lb : List Stmt) : List Stmt := ifThen (nth (ifElse (nth (ifElse (nth (forBody (nth lb 5)) 5)) 0)) 0)
set_option maxRecDepth 100000 in
set_option maxHeartbeats 8000000 in
theorem lock_turn
   (B : Below A₀ base [] h₀) (F : Fr h₀ L s.heap (fun y => if y = Str.ofString "entry" then some (.ref e) else if y = Str.ofString "row" then some (.ref (R i).r) else if y = Str.ofString "env" then some (.ref (P i).e) else if y = Str.ofString "name" then some (.str x tx) else if y = Str.ofString "place" then some (.int (i : Int) tp) else if y = Str.ofString "kind" then some (.int kind tkd) else if y = Str.ofString "deed" then some (.int v tv) else if y = Str.ofString "well" then some (.ref wl) else if y = Str.ofString "envs" then some (.ref el) else if y = Str.ofString "rows" then some (.ref rs) else m y)) (X : (hd.heap_39 w.params).In h₀) (T : Top VW LO mean mg mb h₀) (hb : bodyOf (hd.heap_39 w.params) 188 = lb) (hc : scopeOf (hd.heap_39 w.params) 188 = cs) (hdp : dp ≤ 310) (hun : un ≤ 20)
   (htb : forBody (nth (lockStmts lb) 1) = tb)
   (N : News h₀ L s.heap ((e, PySem.W.listOf #[.str y ty, .int v1 u1, .bool b0] nn) :: tl)) (htl : ∀ p ∈ tl, p.1 ≠ e)
   (k : ∀ h' tk', Fr h₀ L h' (fun y => if y = Str.ofString "entry" then some (.ref e) else if y = Str.ofString "row" then some (.ref (R i).r) else if y = Str.ofString "env" then some (.ref (P i).e) else if y = Str.ofString "name" then some (.str x tx) else if y = Str.ofString "place" then some (.int (i : Int) tp) else if y = Str.ofString "kind" then some (.int kind tkd) else if y = Str.ofString "deed" then some (.int v tv) else if y = Str.ofString "well" then some (.ref wl) else if y = Str.ofString "envs" then some (.ref el) else if y = Str.ofString "rows" then some (.ref rs) else m y) → News h₀ L h' ((e, PySem.W.listOf #[.str y ty, .int v1 u1, .bool (if y = x then (kind == 9) else b0)] nn) :: tl) → Q9 .next { s with heap := h', toks := tk' })
   : wpAny (model PR w) (ktrTop dp un gd (Str.ofString "law") cs L a ccd [] []) (execs tb (envOf (Str.ofString "law") cs L a ccd)) Q9 E s := by
  refine lit_use hb hc (by k_is) ?_
  intro q1 q2
  subst q2
  subst q1
  simp only [lockStmts, nth_0, nth_s, forBody_for, ifElse_if, ifThen_if] at htb
  subst htb
  clear hb hc
  k_steps
  all_goals
    try dsimp only
    rename News _ _ _ _ => n9
    rename Fr _ _ _ _ => f9
  all_goals first
    | (rename (_ == _) = true => a9; rw [if_pos (eq_of_beq a9)] at k; exact k _ _ f9 n9)
    | (rename (_ == _) = false => a9; rw [if_neg (fun q => by rw [q] at a9; simp at a9)] at k; exact k _ _ f9 n9)
set_option maxRecDepth 100000 in
set_option maxHeartbeats 8000000 in
theorem lock_first
   (B : Below A₀ base [] h₀) (F : Fr h₀ L s.heap (fun y => if y = Str.ofString "row" then some (.ref (R i).r) else if y = Str.ofString "env" then some (.ref (P i).e) else if y = Str.ofString "name" then some (.str x tx) else if y = Str.ofString "place" then some (.int (i : Int) tp) else if y = Str.ofString "kind" then some (.int kind tkd) else if y = Str.ofString "deed" then some (.int v tv) else if y = Str.ofString "well" then some (.ref wl) else if y = Str.ofString "envs" then some (.ref el) else if y = Str.ofString "rows" then some (.ref rs) else m y)) (X : (hd.heap_39 w.params).In h₀) (T : Top VW LO mean mg mb h₀) (hb : bodyOf (hd.heap_39 w.params) 188 = lb) (hc : scopeOf (hd.heap_39 w.params) 188 = cs) (hdp : dp ≤ 310) (hun : un ≤ 20)
   (htb : nth (lockStmts lb) 0 = st)
   {eD : ED} {ee ed pf pl : Addr} {num : Int} {par : Value} {pc : Bool} {oL : Obj} {kvL : List (Str × Value)} {DL : List (PyData × PyData)}
   (hMe : (P i).e = ee) (hdL : oL.IsDictOf (strKind PR w) kvL) (hfL : FlatPairs PyData.str kvL DL) (hlen : DL.length ≤ sizeLine)
   (N : News h₀ L s.heap ((ee, instObj 127 ed) :: (ed, envD eD num par pf pc pl) :: (pl, oL) :: tl)) (y1 : ∀ p ∈ tl, p.1 ≠ pl) (d1 : @Ne Nat ee ed) (d2 : @Ne Nat ee pl) (d3 : @Ne Nat ed pl)
   (k : ∀ h' tk' o', Fr h₀ L h' (fun y => if y = Str.ofString "row" then some (.ref (R i).r) else if y = Str.ofString "env" then some (.ref (P i).e) else if y = Str.ofString "name" then some (.str x tx) else if y = Str.ofString "place" then some (.int (i : Int) tp) else if y = Str.ofString "kind" then some (.int kind tkd) else if y = Str.ofString "deed" then some (.int v tv) else if y = Str.ofString "well" then some (.ref wl) else if y = Str.ofString "envs" then some (.ref el) else if y = Str.ofString "rows" then some (.ref rs) else m y) → News h₀ L h' ((ee, instObj 127 ed) :: (ed, envD eD num par pf pc pl) :: (pl, o') :: tl) → o'.IsDictOf (strKind PR w) (stored kvL x (.bool (kind == 9))) → FlatPairs PyData.str (stored kvL x (.bool (kind == 9))) (putD (.str x) (.bool (kind == 9)) DL) → Q9 .next { s with heap := h', toks := tk' })
   : wpAny (model PR w) (ktrTop dp un gd (Str.ofString "law") cs L a ccd [] []) (exec st (envOf (Str.ofString "law") cs L a ccd)) Q9 E s := by
  refine lit_use hb hc (by k_is) ?_
  intro q1 q2
  subst q2
  subst q1
  simp only [lockStmts, nth_0, nth_s, forBody_for, ifElse_if, ifThen_if] at htb
  subst htb
  clear hb hc
  rw [hMe] at F k
  k_steps
  all_goals
    try dsimp only
    rename News _ _ _ _ => n9
    rename Fr _ _ _ _ => f9
    rename Obj.IsDictOf _ _ _ => d9
    rename FlatPairs _ _ _ => fl9
    exact k _ _ _ f9 n9 d9 fl9
end
end
section
open PySem PySem.W PySem.Calls PyProof.Rows PyProof.V PySem.W.X
set_option linter.unusedVariables false
noncomputable def Stop (P : Prop) : Prop := P
theorem stopIt {P : Prop} (h : Stop P) : P := h
theorem map_self (z : Str) (M : Str → Option Value) : M = fun y => if y = z then M y else M y := funext fun y => by split <;> rfl
section
variable {prog : Program} {w : World} {A : Around} {E : Value → Shared → Prop} {s : Shared} {h₀ h h' : Heap} {L wl rw el rs : Addr} {ex : List (Addr × Obj)} {xs : List Int} {P : Nat → EP} {R : Nat → RP} {sp sp' : Int} {Q : Value → Shared → Prop} {value slice : Expr} {i j : Nat} {x : Str} {b : Bool}
theorem item_row0 (S : St4 w h₀ L wl rw el rs ex xs P R sp s.heap) {u : Tok} (hi : i < 4) (h : Q (.ref (R i).l) s)
    (hs : subscripted slice false (.ref (R i).r) (.int 0 u) = operate [.ref (R i).r, .int 0 u] (getItem (.ref (R i).r) (.int 0 u))) (hg : ∀ r, letTemporaryGo value (.ref (R i).r) r = pure ()) :
    wpAny (model prog w) A (subscriptTail value slice (.ref (R i).r) (.int 0 u)) Q E s := by
  obtain ⟨n, e⟩ := (S.rows.st i hi).row
  exact item_list ⟨_, e, rfl, _, rfl⟩ (by decide) (by decide) rfl h hs hg
theorem lock_env (S : St4 w h₀ L wl rw el rs ex xs P R sp h) (hi : i < 4) {x : Str} {b : Bool} {eD : ED} {o' : Obj} {kvs : List (Str × Value)} {D : List (PyData × PyData)}
    (N : News h₀ L h' (((P i).e, instObj 127 (P i).ed) :: ((P i).ed, envD eD (P i).num (P i).par (P i).f (P i).cl (P i).l) :: ((P i).l, o') :: rest h (foot4 wl rw el rs ex P R) [(P i).e, (P i).ed, (P i).l]))
    (hd : o'.IsDictOf (strKind PR w) kvs) (hf : FlatPairs PyData.str kvs (putD (.str x) (.bool b) D)) (hL : LockRel (P i).E D) (hz : D.length ≤ (P i).k) (hx : has x (P i).E = true) :
    St4 w h₀ L wl rw el rs ex xs (setP P i { P i with E := lockE x b (P i).E, k := (P i).k + 1 }) R sp h' := by
  have Se := S.env.st i hi
  have kk := rest_get N (fun p hp => .tail _ (.tail _ (.tail _ hp)))
  have hP : ∀ b ∈ (P i).foot, b ∈ feet P := fun b hb => mem_feet.mpr ⟨i, hi, hb⟩
  have ap := Se.apart
  simp only [EP.foot, List.nodup_cons, List.mem_cons, List.not_mem_nil, or_false, not_or, List.nodup_nil, and_true, not_false_eq_true] at ap
  have sR : setR R i (R i) = R := funext fun j => by unfold setR; split <;> first | rfl | (rename_i q; rw [q])
  have nR : ∀ b ∈ (R i).foot, b ∉ [(P i).e, (P i).ed, (P i).l] := fun b hb q => by
    have hbR : b ∈ rfeet R := mem_rfeet.mpr ⟨i, hi, hb⟩
    rcases el3 q with q | q | q
    · exact S.apart b (hP b (q ▸ .head _)) hbR
    · exact S.apart b (hP b (q ▸ .tail _ (.head _))) hbR
    · exact S.apart b (hP b (q ▸ .tail _ (.tail _ (.tail _ (.head _))))) hbR
  have := S.place hi (A := [(P i).e, (P i).ed, (P i).l]) (p := { P i with E := lockE x b (P i).E, k := (P i).k + 1 }) (R' := R i) (h' := h') (fun b hb => ?_) kk ⟨(N _ (.head _)).1, ⟨eD, (N _ (.tail _ (.head _))).1⟩, ?_, ?_, by rw [lockE_names]; exact Se.names, by rw [lockE_length]; exact Nat.le_succ_of_le Se.size, Se.lowf, Se.lowl, Se.apart⟩
    ((S.rows.st i hi).keep fun b hb o e => kk b (f4_R (mem_rfeet.mpr ⟨i, hi, hb⟩)) (nR b hb) o e) rfl rfl rfl rfl rfl rfl (S.rows.short i hi) (S.rows.sok i hi)
  · rw [sR] at this; exact this
  · rcases el3 hb with z | z | z
    · rw [z]; exact .inl (.head _)
    · rw [z]; exact .inl (.tail _ (.head _))
    · rw [z]; exact .inl (.tail _ (.tail _ (.tail _ (.head _))))
  · obtain ⟨o, kvs, e, r⟩ := Se.frame
    refine ⟨o, kvs, kk _ (f4_P (hP _ (.tail _ (.tail _ (.head _))))) (fun q => ?_) _ e, ?_⟩
    · rcases el3 q with q | q | q
      · exact ap.1.2.1 q.symm
      · exact ap.2.1.1 q.symm
      · exact ap.2.2 q
    · rw [frmD_lock]; exact r
  · exact ⟨o', kvs, _, (N _ (.tail _ (.tail _ (.head _)))).1, hd, hf, hL.lock x b hx, Nat.le_trans (putD_length_le _ _ D) (Nat.succ_le_succ hz)⟩
noncomputable def lockN (x : Str) (b : Bool) (j : Nat) (R : RP) : RP := { R with D := lockD x b (R.D.take j) ++ R.D.drop j }
theorem lockN_zero (x : Str) (b : Bool) (R : RP) : lockN x b 0 R = R := rfl
theorem lockN_all (x : Str) (b : Bool) (R : RP) : lockN x b R.D.length R = { R with D := lockD x b R.D } := by
  unfold lockN; simp
theorem lockN_foot (x : Str) (b : Bool) (j : Nat) (R : RP) : (lockN x b j R).foot = R.foot := by
  unfold lockN RP.foot
  simp only [List.map_append, lockD_fst]
  rw [← List.map_append, List.take_append_drop]
theorem lockN_length (x : Str) (b : Bool) (j : Nat) (R : RP) : (lockN x b j R).D.length = R.D.length := by
  have := congrArg List.length (lockN_foot x b j R)
  unfold RP.foot at this
  simpa using this
theorem setR_at {R' : RP} : setR R i R' i = R' := by unfold setR; rw [if_pos rfl]
theorem setR_twice {R1 R2 : RP} : setR (setR R i R1) i R2 = setR R i R2 := funext fun j => by unfold setR; split <;> rfl
theorem setP_same : setP P i (P i) = P := funext fun j => by unfold setP; split <;> first | rfl | (rename_i q; rw [q])
theorem lock_step (S : St4 w h₀ L wl rw el rs ex xs P (setR R i (lockN x b j (R i))) sp h) (hi : i < 4) {p : Addr × Ent} (hp : (R i).D[j]? = some p) {I : Addr} {oI : Obj} {t u : Tok} {n : Nat} (hIF : I ∉ foot4 wl rw el rs ex P (setR R i (lockN x b j (R i)))) (eI : h.get? I = some oI)
    (N : News h₀ L h' ((p.1, PySem.W.listOf #[.str p.2.1 t, .int p.2.2.1 u, .bool (if p.2.1 = x then b else p.2.2.2)] n) :: rest h (I :: foot4 wl rw el rs ex P (setR R i (lockN x b j (R i)))) [p.1])) :
    St4 w h₀ L wl rw el rs ex xs P (setR R i (lockN x b (j + 1) (R i))) sp h' ∧ h'.get? I = some oI ∧ ∀ o, h.get? (R i).l = some o → h'.get? (R i).l = some o := by
  have hpD : p ∈ (R i).D := List.mem_of_getElem? hp
  have hpm : p.1 ∈ (R i).foot := .tail _ (.tail _ (List.mem_map_of_mem hpD))
  have fN : ∀ l, (lockN x b l (R i)).foot = (R i).foot := fun l => lockN_foot x b l (R i)
  have hmem : ∀ q ∈ (R i).foot, q ∈ rfeet (setR R i (lockN x b j (R i))) := fun q hq => mem_rfeet.mpr ⟨i, hi, by rw [setR_at, fN]; exact hq⟩
  have Sr := S.rows.st i hi
  rw [setR_at] at Sr
  have kk := rest_get N (fun q hq => .tail _ hq)
  have hIp : I ∉ [p.1] := fun q => hIF ((List.mem_singleton.mp q) ▸ f4_R (hmem _ hpm))
  have hnd : (R i).foot.Nodup := by rw [← fN j]; exact Sr.apart
  have hlen : j < (R i).D.length := by
    rcases Nat.lt_or_ge j (R i).D.length with q | q
    · exact q
    · rw [List.getElem?_eq_none q] at hp; cases hp
  have hsplit : (R i).D = (R i).D.take j ++ p :: (R i).D.drop (j + 1) := by
    have e1 : (R i).D[j] = p := by rw [List.getElem?_eq_getElem hlen] at hp; exact Option.some.inj hp
    have e2 := List.drop_eq_getElem_cons hlen
    rw [e1] at e2
    rw [← e2, List.take_append_drop]
  have e1 : (lockN x b j (R i)).D = lockD x b ((R i).D.take j) ++ p :: (R i).D.drop (j + 1) := by
    have e2 := List.drop_eq_getElem_cons hlen
    rw [List.getElem?_eq_getElem hlen] at hp
    rw [Option.some.inj hp] at e2
    unfold lockN
    rw [e2]
  have e3 : (lockN x b (j + 1) (R i)).D = lockD x b ((R i).D.take j) ++ (if p.2.1 = x then (p.1, (p.2.1, p.2.2.1, b)) else p) :: (R i).D.drop (j + 1) := by
    unfold lockN
    rw [List.take_add_one, hp]
    unfold lockD
    simp
  have nd : ((R i).D.map (·.1)).Nodup := by
    unfold RP.foot at hnd
    exact (List.nodup_cons.mp (List.nodup_cons.mp hnd).2).2
  rw [hsplit, List.map_append, List.map_cons] at nd
  have nd2 := List.nodup_append.mp nd
  have nA : ∀ q ∈ lockD x b ((R i).D.take j), q.1 ≠ p.1 := fun q hq e => by
    have : q.1 ∈ (lockD x b ((R i).D.take j)).map (·.1) := List.mem_map_of_mem hq
    rw [lockD_fst] at this
    exact nd2.2.2 _ this _ (.head _) e
  have nB : ∀ q ∈ (R i).D.drop (j + 1), q.1 ≠ p.1 := fun q hq e => (List.nodup_cons.mp nd2.2.1).1 (e ▸ List.mem_map_of_mem hq)
  have old : ∀ q, q ∈ (lockN x b j (R i)).D → q.1 ≠ p.1 → ∃ t u n, h'.get? q.1 = some (PySem.W.listOf #[.str q.2.1 t, .int q.2.2.1 u, .bool q.2.2.2] n) := fun q hq ne => by
    obtain ⟨t, u, n, e⟩ := Sr.ents q hq
    have hm : q.1 ∈ (R i).foot := by rw [← fN j]; exact .tail _ (.tail _ (List.mem_map_of_mem hq))
    exact ⟨t, u, n, kk _ (.tail _ (f4_R (hmem _ hm))) (fun z => ne (List.mem_singleton.mp z)) _ e⟩
  have hpo : p.1 ≠ (R i).r ∧ p.1 ≠ (R i).l := by
    unfold RP.foot at hnd
    rw [List.nodup_cons, List.nodup_cons] at hnd
    exact ⟨fun e => hnd.1 (.tail _ (e ▸ List.mem_map_of_mem hpD)), fun e => hnd.2.1 (e ▸ List.mem_map_of_mem hpD)⟩
  have Sr' : RowSt (lockN x b (j + 1) (R i)) h' := by
    refine ⟨?_, ?_, fun q hq => ?_, by rw [fN]; exact hnd⟩
    · obtain ⟨n, e⟩ := Sr.row
      exact ⟨n, kk _ (.tail _ (f4_R (hmem _ (.head _)))) (fun z => hpo.1 (List.mem_singleton.mp z).symm) _ e⟩
    · obtain ⟨n, e⟩ := Sr.lst
      refine ⟨n, ?_⟩
      have er : (lockN x b (j + 1) (R i)).D.map (fun p => Value.ref p.1) = (lockN x b j (R i)).D.map fun p => Value.ref p.1 := by
        rw [e1, e3]
        simp only [List.map_append, List.map_cons]
        split <;> rfl
      rw [er]
      exact kk _ (.tail _ (f4_R (hmem _ (.tail _ (.head _))))) (fun z => hpo.2 (List.mem_singleton.mp z).symm) _ e
    · rw [e3] at hq
      rcases List.mem_append.mp hq with hq | hq
      · exact old q (by rw [e1]; exact List.mem_append.mpr (.inl hq)) (nA q hq)
      rcases List.mem_cons.mp hq with rfl | hq
      · have h0 := (N _ (.head _)).1
        dsimp only at h0
        split
        · rename_i e; rw [if_pos e] at h0; exact ⟨t, u, n, h0⟩
        · rename_i e; rw [if_neg e] at h0; exact ⟨t, u, n, h0⟩
      · exact old q (by rw [e1]; exact List.mem_append.mpr (.inr (.tail _ hq))) (nB q hq)
  refine ⟨?_, kk I (.head _) hIp _ eI, fun o e => kk _ (.tail _ (f4_R (hmem _ (.tail _ (.head _))))) (fun z => hpo.2 (List.mem_singleton.mp z).symm) _ e⟩
  have hA : ∀ b' ∈ [p.1], b' ∈ (P i).foot ∨ b' ∈ (setR R i (lockN x b j (R i)) i).foot := fun b' hb => by
    rw [List.mem_singleton.mp hb, setR_at, fN]; exact .inr hpm
  have := S.place hi (A := [p.1]) (p := P i) (R' := lockN x b (j + 1) (R i)) hA (fun b' hb n o e => kk b' (.tail _ hb) n o e) ((S.env.st i hi).keep fun b' hb o e => kk b' (.tail _ (f4_P (mem_feet.mpr ⟨i, hi, hb⟩))) (fun z => S.apart b' (mem_feet.mpr ⟨i, hi, hb⟩) (by rw [List.mem_singleton.mp z]; exact hmem _ hpm)) o e) Sr' rfl rfl rfl rfl (by rw [setR_at]; rfl) (by rw [setR_at, fN, fN]) (by rw [lockN_length, ← lockN_length x b j]; have := S.rows.short i hi; rw [setR_at] at this; exact this) ?_
  · rw [setP_same, setR_twice] at this; exact this
  · have h4 := S.rows.sok i hi
    rw [setR_at] at h4
    intro q hq
    have hq' : q.2.1 ∈ (lockN x b (j + 1) (R i)).D.map (·.2.1) := List.mem_map_of_mem hq
    have : (lockN x b (j + 1) (R i)).D.map (·.2.1) = (lockN x b j (R i)).D.map (·.2.1) := by
      rw [e1, e3]
      simp only [List.map_append, List.map_cons]
      split <;> rfl
    rw [this] at hq'
    obtain ⟨q', hq1, hq2⟩ := List.mem_map.mp hq'
    rw [← hq2]; exact h4 q' hq1
end
theorem said_Lock2_1 : True := by
  k_with_none
  (k_with "m binaryOp Add str str" => (k_here; (with_reducible show wpAny _ _ (binaryOp Operator.Add (Value.str _ _) (Value.str _ _)) _ _ _); (refine' PyProof.Rows.add_str ?hh ?hsz; (case hsz => (have e1 := litA; have e2 := litB; have e3 := sz_line; (try rw [StrLaws.length_append]); omega)); intro t9 k9)))
  (k_with "m k_room" => first | k_dflt exact room_lt (k := 1) hdp rfl | k_dflt exact room_lt (k := 2) hdp rfl | k_dflt exact room_lt (k := 3) hdp rfl | k_dflt exact room_lt (k := 4) hdp rfl | k_dflt exact room_lt (k := 0) hdp rfl | decide | ((try simp only [depth_mark, depth_under_make, depth_under_kw, depth_in1, depth_deeper, depth_caller]); (try dsimp only [ktrTop]); (show (_ : Nat) < 1000); omega))
  (k_with "m k_units" => first | k_dflt exact unit_lt (k := 0) hun rfl | k_dflt exact unit_lt (k := 1) hun rfl | k_dflt exact unit_lt (k := 2) hun rfl | exact Nat.le_of_ble_eq_true rfl | ((try simp only [units_in1, units_deeper, Around.mark_units, units_caller]); (try dsimp only [ktrTop]); (show (_ : Nat) < 9900); omega))
  (k_with "m exec Raise some none" => (k_here; k_dflt (refine' raise_own ?hh ?_; (case hh => exact rfl))))
  (k_with "m call ref" => (k_here; (with_reducible show wpAny _ _ (call (Value.ref 44) [Value.str _ _]) _ _ _); (rename Fr _ _ _ _ => mF); k_dflt ((refine mk_K (by k_asm) mF (by k_asm) (by k_asm) (by (show (_ : Nat) ≤ 400; dsimp only; omega)) ?_); intro e dx t h' tk hh tm n F' N' st e1 e2 ne X'; (refine ⟨_, _, _, rfl, (N' _ (List.Mem.head _)).1, X', ?_⟩); (try k_unfold); (try dsimp only); (refine leave_refused (by k_asm) mF e1 e2 F' (N' _ (List.Mem.head _)).1 (N' _ (List.Mem.tail _ (List.Mem.head _))).1 (by first | assumption | exact stays_of (by assumption) mF (by k_asm)) st (by assumption) ?_ (by rfl)); intro h9 R9; (try dsimp only))))
  (k_with "m setItem ref str" => (k_here; k_dflt (refine' setItem_K PyProof.V.same_str (strKind_is _ _ _ _) ?v ?F ?N ?U ?d ?f ?_ ?z; (case F => k_asm); (case N => k_asm); (case U => k_updF); (case d => k_asm); (case f => k_asm); (case z => assumption); (case v => k_flat)); intro h' o' F' N' hd' hf'; (try dsimp only at N'); (try k_sweep)))
  (k_with "m M enter" => (refine wpAny_call ?_; k_dflt (refine' enter ?k1 ?k2 ?k3 ?k4 ?k5 ?kA ?kF ?kK ?k6 ?k7 ?k8 ?k9 ?kB ?_ ?c2 ?c3 ?c4 ?c5; (case kA => exact rfl); (case kF => exact rfl); (case kK => first | assumption | exact rfl); (case k1 => k_asm); (case k2 => k_asm); (case k3 => k_asm); (case k4 => k_asm); (case k5 => k_asm); (case k6 => k_is); (case k7 => k_is); (case k8 => (show (_ : Nat) < 1000; dsimp only; omega)); (case k9 => exact BindsTo.of_eq rfl); (case c5 => decide); (case kB => exact locs rfl); (case c2 => exact rfl); (case c3 => exact rfl); (case c4 => exact rfl); k_whole)))
  (k_with "m delItem ref str" => (k_here; k_dflt (refine' kt_del_K PyProof.V.same_str (strKind_is _ _ _ _) ?F ?N ?U ?d ?f ?l ?_ ?z; (case F => k_asm); (case N => k_asm); (case U => k_updF); (case d => k_asm); (case f => k_asm); (case l => first | with_reducible assumption | rfl); (case z => assumption)); intro h' o' F' N' hd' hf'; try dsimp only at N'))
  (k_with "m M room" => first | k_dflt exact room_le (k := 1) hdp rfl | k_dflt exact room_le (k := 0) hun rfl | k_dflt exact room_le (k := 1) hun rfl | k_dflt exact room_le (k := 2) hdp rfl | k_dflt exact room_le (k := 0) hdp rfl | ((try simp only [depth_mark, depth_under_make, depth_under_kw, depth_in1, depth_deeper, depth_caller, units_in1, units_deeper, Around.mark_units, units_caller]); (try dsimp only [ktrTop]); omega))
  (k_with "m subscriptTail" => (k_here; (with_reducible show wpAny _ _ (subscriptTail _ _ (Value.ref _) (Value.int 0 _)) _ _ _); (rename News _ _ _ (snap _ _) => mN); (rename St4 _ _ _ _ _ _ _ _ _ _ _ _ _ => mS); k_dflt (refine' item_row0 ?S ?hi ?_ ?hs ?hg; (case S => exact St4.at mS mN (fun _ h => h)); (case hi => omega); (case hs => with_unfolding_all rfl); (case hg => (intro _; with_unfolding_all rfl)))))
  (k_with "m pyIter ref" => (k_here; refine stopIt ?_))
  trivial
section
variable {w : World} {mean : ExcName → Option Value} {mg mb : Str → Option Value} {dp un : Nat} {gd : Option (List Code)} {cs : Scope} {a : Addr} {ccd : Value} {A₀ : Around} {base h₀ : Heap} {L : Addr} {m : Str → Option Value} {s : Shared} {Q E : Value → Shared → Prop} {Q9 : Flow → Shared → Prop} {kind : Int} {tkd tp : Tok} {n : Nat} {e : Addr} {y : Str} {ty : Tok} {v1 : Int} {u1 : Tok} {b0 : Bool} {nn : Nat} {tl : List (Addr × Obj)}
  {x : Str} {tx : Tok} {v : Int} {tv : Tok} {R : Nat → RP} {P : Nat → EP} {wl rw el rs : Addr} {ex : List (Addr × Obj)} {xs : List Int} {sp : Int} {i : Nat} {tb : List Stmt} {lb : List Stmt} {r1 l1 e1 e2 e3 : Addr} {x1 x2 x3 : Str} {v2 v3 : Int} {b1 b2 b3 c : Bool}
set_option maxRecDepth 100000 in
set_option maxHeartbeats 8000000 in
theorem lock_spec
   (B : Below A₀ base [] h₀) (F : Fr h₀ L s.heap (fun y => if y = Str.ofString "row" then some (.ref (R i).r) else if y = Str.ofString "env" then some (.ref (P i).e) else if y = Str.ofString "name" then some (.str x tx) else if y = Str.ofString "place" then some (.int (i : Int) tp) else if y = Str.ofString "kind" then some (.int kind tkd) else if y = Str.ofString "deed" then some (.int v tv) else if y = Str.ofString "well" then some (.ref wl) else if y = Str.ofString "envs" then some (.ref el) else if y = Str.ofString "rows" then some (.ref rs) else m y)) (X : (hd.heap_39 w.params).In h₀) (T : Top VW LO mean mg mb h₀) (hb : bodyOf (hd.heap_39 w.params) 188 = lb) (hc : scopeOf (hd.heap_39 w.params) 188 = cs) (hdp : dp ≤ 310) (hun : un ≤ 20)
   (htb : lockStmts lb = tb)
   (S : St4 w h₀ L wl rw el rs ex xs P R sp s.heap) (G : Good P R n) (hn : n ≤ 9000) (i1 : 1 ≤ i) (i4 : i < 4) (hx : has x (R i).E = true) (hE : PassesOwn (model PR w) (ktrTop dp un gd (Str.ofString "law") cs L a ccd [] []) (envOf (Str.ofString "law") cs L a ccd) E)
   (k : ∀ h' tk' m' P' R', St4 w h₀ L wl rw el rs ex xs P' R' sp h' → Good P' R' (n + 1) → Fr h₀ L h' m' → m' (Str.ofString "well") = some (.ref wl) → m' (Str.ofString "envs") = some (.ref el) → m' (Str.ofString "rows") = some (.ref rs) → Q9 .next { s with heap := h', toks := tk' })
   : wpAny (model PR w) (ktrTop dp un gd (Str.ofString "law") cs L a ccd [] []) (execs tb (envOf (Str.ofString "law") cs L a ccd)) Q9 E s := by
  have hb0 := hb
  have hc0 := hc
  have htb0 := htb
  refine lit_use hb hc (by k_is) ?_
  intro q1 q2
  subst q2
  subst q1
  simp only [lockStmts, nth_0, nth_s, forBody_for, ifElse_if, ifThen_if] at htb
  subst htb
  have Se := S.env.st i i4
  refine Se.use fun eD _ oL _ kvL DL Ed _ _ _ El hdL hfL hLR hDL => ?_
  have Ei := Se.inst
  have ap := Se.apart
  have hlen' : DL.length ≤ sizeLine := by have := sizeLine_eq; have := G.k i i4; omega
  have hxP : has x (P i).E = true := by rw [← (G.tie i i4).1]; exact hx
  have oP : ∀ b ∈ (P i).foot, b ≠ L ∧ h₀.get? b = none := fun b hb => S.off b (f4_P (mem_feet.mpr ⟨i, i4, hb⟩))
  have d1 : @Ne Nat (P i).e (P i).ed := ap_ne ap 0 1 (by decide) rfl rfl
  have d2 : @Ne Nat (P i).e (P i).l := ap_ne ap 0 3 (by decide) rfl rfl
  have d3 : @Ne Nat (P i).ed (P i).l := ap_ne ap 1 3 (by decide) rfl rfl
  refine cut_cons fun Q1 n1 r1 => ?_
  refine lock_first (tl := rest s.heap (foot4 wl rw el rs ex P R) [(P i).e, (P i).ed, (P i).l]) B F X T hb0 hc0 hdp hun rfl rfl hdL hfL hlen' (nc ⟨Ei, oP _ (.head _)⟩ (nc ⟨Ed, oP _ (.tail _ (.head _))⟩ (nc ⟨El, oP _ (.tail _ (.tail _ (.tail _ (.head _))))⟩ (rest_news S.off)))) (rest_ne (.tail _ (.tail _ (.head _)))) d1 d2 d3 fun h9 tk9 o9 f9 n9 d9 fl9 => ?_
  refine n1 _ ?_
  have S1 := lock_env S i4 n9 d9 fl9 hLR hDL hxP
  clear n9 d9 fl9 r1
  obtain ⟨P1, eP1⟩ : ∃ P1, P1 = setP P i { P i with E := lockE x (kind == 9) (P i).E, k := (P i).k + 1 } := ⟨_, rfl⟩
  rw [← eP1] at S1
  have G1 : Good P1 (setR R i { R i with D := lockD x (kind == 9) (R i).D }) (n + 1) := eP1 ▸ G.lock i1 i4 rfl
  refine cut_cons fun Q2 n2 r2 => ?_
  refine For_invVF f9 rfl rfl ?_ (hE := hE)
  have N := S1.news
  clear Se ap Ei Ed El hdL hfL hLR hDL hb hc oP
  k_steps
  unfold Stop
  rename St4 _ _ _ _ _ _ _ _ _ _ _ _ _ => mS
  try dsimp only
  refine (mS.rows.st i i4).lst.elim fun nl el0 => ?_
  have sR : setR R i (lockN x (kind == 9) 0 (R i)) = R := funext fun j => by rw [lockN_zero]; unfold setR; split <;> first | rfl | (rename_i q; rw [q])
  refine each_list (fun j F h M => (∃ u : Str → Option Value, M = fun y => if y = Str.ofString "entry" then u y else if y = Str.ofString "row" then some (.ref (R i).r) else if y = Str.ofString "env" then some (.ref (P i).e) else if y = Str.ofString "name" then some (.str x tx) else if y = Str.ofString "place" then some (.int (i : Int) tp) else if y = Str.ofString "kind" then some (.int kind tkd) else if y = Str.ofString "deed" then some (.int v tv) else if y = Str.ofString "well" then some (.ref wl) else if y = Str.ofString "envs" then some (.ref el) else if y = Str.ofString "rows" then some (.ref rs) else m y) ∧ F = foot4 wl rw el rs ex P1 (setR R i (lockN x (kind == 9) j (R i))) ∧ St4 w h₀ L wl rw el rs ex xs P1 (setR R i (lockN x (kind == 9) j (R i))) sp h) (foot4 wl rw el rs ex P1 (setR R i (lockN x (kind == 9) 0 (R i))))
    (fun j F h h' M hJ hk => by obtain ⟨a, rfl, c⟩ := hJ; exact ⟨a, rfl, c.keep hk⟩) (fun j F h M hJ => by obtain ⟨a, rfl, c⟩ := hJ; exact c.off) (fun j F h M hJ => by obtain ⟨a, rfl, c⟩ := hJ; exact c.there) rfl ⟨_, el0, rfl, _, rfl⟩ (mS.off _ (f4_R (mem_rfeet.mpr ⟨i, i4, .tail _ (.head _)⟩))).1 (mS.off _ (f4_R (mem_rfeet.mpr ⟨i, i4, .tail _ (.head _)⟩))).2 f9 ?_ ?_ ?_
  · refine ⟨⟨fun y => if y = Str.ofString "row" then some (.ref (R i).r) else if y = Str.ofString "env" then some (.ref (P i).e) else if y = Str.ofString "name" then some (.str x tx) else if y = Str.ofString "place" then some (.int (i : Int) tp) else if y = Str.ofString "kind" then some (.int kind tkd) else if y = Str.ofString "deed" then some (.int v tv) else if y = Str.ofString "well" then some (.ref wl) else if y = Str.ofString "envs" then some (.ref el) else if y = Str.ofString "rows" then some (.ref rs) else m y, map_self (Str.ofString "entry") (fun y => if y = Str.ofString "row" then some (.ref (R i).r) else if y = Str.ofString "env" then some (.ref (P i).e) else if y = Str.ofString "name" then some (.str x tx) else if y = Str.ofString "place" then some (.int (i : Int) tp) else if y = Str.ofString "kind" then some (.int kind tkd) else if y = Str.ofString "deed" then some (.int v tv) else if y = Str.ofString "well" then some (.ref wl) else if y = Str.ofString "envs" then some (.ref el) else if y = Str.ofString "rows" then some (.ref rs) else m y)⟩, rfl, ?_⟩
    rw [sR]; exact mS
  · intro j vv F₁ m₁ h tk I oI ol hv hJ hIF eI eol hIL hIl hI0 Fr₁
    refine hJ.1.elim fun u hu => ?_
    rw [hu] at Fr₁
    have hF := hJ.2.1
    rw [hF] at hIF
    have SJ := hJ.2.2
    clear hJ hu
    refine (ent_at hv).elim fun p hpv => ?_
    rw [hpv.2] at Fr₁
    have hp := hpv.1
    have hpD := List.mem_of_getElem? hp
    have hpm : p.1 ∈ (R i).foot := .tail _ (.tail _ (List.mem_map_of_mem hpD))
    have hmem : ∀ q ∈ (R i).foot, q ∈ rfeet (setR R i (lockN x (kind == 9) j (R i))) := fun q hq => mem_rfeet.mpr ⟨i, i4, by rw [setR_at, lockN_foot]; exact hq⟩
    have hpj : p ∈ (lockN x (kind == 9) j (R i)).D := by
      unfold lockN
      refine List.mem_append.mpr (.inr ?_)
      have : ((R i).D.drop j)[0]? = some p := by rw [List.getElem?_drop]; exact hp
      exact List.mem_of_getElem? this
    have SrJ := SJ.rows.st i i4
    rw [setR_at] at SrJ
    refine (SrJ.ents p hpj).elim fun t hz => hz.elim fun u' hz => hz.elim fun n' ep => ?_
    have oX : Off h₀ L (I :: foot4 wl rw el rs ex P1 (setR R i (lockN x (kind == 9) j (R i)))) := fun b hb => by
      rcases List.mem_cons.mp hb with rfl | hb
      · exact ⟨hIL, hI0⟩
      · exact SJ.off b hb
    have eF : (fun y => if y = Str.ofString "entry" then some (Value.ref p.1) else (fun y => if y = Str.ofString "entry" then u y else if y = Str.ofString "row" then some (.ref (R i).r) else if y = Str.ofString "env" then some (.ref (P i).e) else if y = Str.ofString "name" then some (.str x tx) else if y = Str.ofString "place" then some (.int (i : Int) tp) else if y = Str.ofString "kind" then some (.int kind tkd) else if y = Str.ofString "deed" then some (.int v tv) else if y = Str.ofString "well" then some (.ref wl) else if y = Str.ofString "envs" then some (.ref el) else if y = Str.ofString "rows" then some (.ref rs) else m y) y) = (fun y => if y = Str.ofString "entry" then some (Value.ref p.1) else (fun y => if y = Str.ofString "row" then some (.ref (R i).r) else if y = Str.ofString "env" then some (.ref (P i).e) else if y = Str.ofString "name" then some (.str x tx) else if y = Str.ofString "place" then some (.int (i : Int) tp) else if y = Str.ofString "kind" then some (.int kind tkd) else if y = Str.ofString "deed" then some (.int v tv) else if y = Str.ofString "well" then some (.ref wl) else if y = Str.ofString "envs" then some (.ref el) else if y = Str.ofString "rows" then some (.ref rs) else m y) y) := funext fun y => by
      by_cases q : y = Str.ofString "entry"
      · simp only [if_pos q]
      · simp only [if_neg q]
    rw [eF] at Fr₁
    refine lock_turn (tl := rest h (I :: foot4 wl rw el rs ex P1 (setR R i (lockN x (kind == 9) j (R i)))) [p.1]) B Fr₁ X T hb0 hc0 hdp hun rfl (nc ⟨ep, SJ.off _ (f4_R (hmem _ hpm))⟩ (rest_news oX)) (rest_ne (.head _)) fun h8 tk8 f8 n8 => ?_
    have z8 := lock_step SJ i4 hp hIF eI n8
    have S8 := z8.1
    have eI8 := z8.2.1
    have el8 := z8.2.2
    refine ⟨h8, tk8, _, _, rfl, f8, ⟨⟨fun y => some (.ref p.1), rfl⟩, rfl, S8⟩, ?_, eI8, fun q hq => ?_⟩
    · intro z
      refine hIF ?_
      unfold foot4 rfeet at z ⊢
      have ff : ∀ l, (setR R i (lockN x (kind == 9) (j + 1) (R i)) l).foot = (setR R i (lockN x (kind == 9) j (R i)) l).foot := fun l => by unfold setR; split <;> first | rfl | rw [lockN_foot, lockN_foot]
      rw [ff, ff, ff, ff] at z
      exact z
    · rw [← Option.some.inj hq]; exact el8 _ eol
  · intro h' tk m' F' hJ Fr'
    refine hJ.1.elim fun u hu => ?_
    rw [hu] at Fr'
    have SJ := hJ.2.2
    refine n2 _ ?_
    have hsz : ((R i).D.map fun p => Value.ref p.1).toArray.size = (R i).D.length := by simp
    rw [hsz, lockN_all] at SJ
    refine wpAny_execs_nil ?_
    exact k _ _ _ _ _ SJ G1 Fr' rfl rfl rfl
end
end
section
open PySem PySem.W PySem.Calls PyProof.Rows PyProof.V PySem.W.X
set_option linter.unusedVariables false
theorem said_TurnB_1 : True := by
  k_with_none
  (k_with "m binaryOp Add str str" => (k_here; (with_reducible show wpAny _ _ (binaryOp Operator.Add (Value.str _ _) (Value.str _ _)) _ _ _); (refine' PyProof.Rows.add_str ?hh ?hsz; (case hsz => (have e1 := litA; have e2 := litB; have e3 := sz_line; (try rw [StrLaws.length_append]); omega)); intro t9 k9)))
  (k_with "m k_room" => first | k_dflt exact room_lt (k := 1) hdp rfl | k_dflt exact room_lt (k := 2) hdp rfl | k_dflt exact room_lt (k := 3) hdp rfl | k_dflt exact room_lt (k := 4) hdp rfl | k_dflt exact room_lt (k := 0) hdp rfl | decide | ((try simp only [depth_mark, depth_under_make, depth_under_kw, depth_in1, depth_deeper, depth_caller]); (try dsimp only [ktrTop]); (show (_ : Nat) < 1000); omega))
  (k_with "m k_units" => first | k_dflt exact unit_lt (k := 0) hun rfl | k_dflt exact unit_lt (k := 1) hun rfl | k_dflt exact unit_lt (k := 2) hun rfl | exact Nat.le_of_ble_eq_true rfl | ((try simp only [units_in1, units_deeper, Around.mark_units, units_caller]); (try dsimp only [ktrTop]); (show (_ : Nat) < 9900); omega))
  (k_with "m exec Raise some none" => (k_here; k_dflt (refine' raise_own ?hh ?_; (case hh => exact rfl))))
  (k_with "m call ref" => (k_here; (with_reducible show wpAny _ _ (call (Value.ref 44) [Value.str _ _]) _ _ _); (rename Fr _ _ _ _ => mF); k_dflt ((refine mk_K (by k_asm) mF (by k_asm) (by k_asm) (by (show (_ : Nat) ≤ 400; dsimp only; omega)) ?_); intro e dx t h' tk hh tm n F' N' st e1 e2 ne X'; (refine ⟨_, _, _, rfl, (N' _ (List.Mem.head _)).1, X', ?_⟩); (try k_unfold); (try dsimp only); (refine leave_refused (by k_asm) mF e1 e2 F' (N' _ (List.Mem.head _)).1 (N' _ (List.Mem.tail _ (List.Mem.head _))).1 (by first | assumption | exact stays_of (by assumption) mF (by k_asm)) st (by assumption) ?_ (by rfl)); intro h9 R9; (try dsimp only))))
  (k_with "m setItem ref str" => (k_here; k_dflt (refine' setItem_K PyProof.V.same_str (strKind_is _ _ _ _) ?v ?F ?N ?U ?d ?f ?_ ?z; (case F => k_asm); (case N => k_asm); (case U => k_updF); (case d => k_asm); (case f => k_asm); (case z => assumption); (case v => k_flat)); intro h' o' F' N' hd' hf'; (try dsimp only at N'); (try k_sweep)))
  (k_with "m M enter" => (refine wpAny_call ?_; k_dflt (refine' enter ?k1 ?k2 ?k3 ?k4 ?k5 ?kA ?kF ?kK ?k6 ?k7 ?k8 ?k9 ?kB ?_ ?c2 ?c3 ?c4 ?c5; (case kA => exact rfl); (case kF => exact rfl); (case kK => first | assumption | exact rfl); (case k1 => k_asm); (case k2 => k_asm); (case k3 => k_asm); (case k4 => k_asm); (case k5 => k_asm); (case k6 => k_is); (case k7 => k_is); (case k8 => (show (_ : Nat) < 1000; dsimp only; omega)); (case k9 => exact BindsTo.of_eq rfl); (case c5 => decide); (case kB => exact locs rfl); (case c2 => exact rfl); (case c3 => exact rfl); (case c4 => exact rfl); k_whole)))
  (k_with "m delItem ref str" => (k_here; k_dflt (refine' kt_del_K PyProof.V.same_str (strKind_is _ _ _ _) ?F ?N ?U ?d ?f ?l ?_ ?z; (case F => k_asm); (case N => k_asm); (case U => k_updF); (case d => k_asm); (case f => k_asm); (case l => first | with_reducible assumption | rfl); (case z => assumption)); intro h' o' F' N' hd' hf'; try dsimp only at N'))
  (k_with "m M room" => first | k_dflt exact room_le (k := 1) hdp rfl | k_dflt exact room_le (k := 0) hun rfl | k_dflt exact room_le (k := 1) hun rfl | k_dflt exact room_le (k := 2) hdp rfl | k_dflt exact room_le (k := 0) hdp rfl | ((try simp only [depth_mark, depth_under_make, depth_under_kw, depth_in1, depth_deeper, depth_caller, units_in1, units_deeper, Around.mark_units, units_caller]); (try dsimp only [ktrTop]); omega))
  (k_with "m subscriptTail" => (k_here; (with_reducible show wpAny _ _ (subscriptTail _ _ (Value.ref _) (Value.int (Nat.cast _) _)) _ _ _); (rename News _ _ _ (snap _ _) => mN); (rename St4 _ _ _ _ _ _ _ _ _ _ _ _ _ => mS); (have S9 := St4.at mS mN (fun _ h => h)); k_dflt (refine' item_els ?S ?hi ?_ ?hs ?hg; (case S => with_reducible exact S9); (case hi => omega); (case hs => with_unfolding_all rfl); (case hg => (intro _; with_unfolding_all rfl)); clear S9)))
  (k_with "m subscriptTail" => (k_here; (with_reducible show wpAny _ _ (subscriptTail _ _ (Value.ref _) (Value.int (Nat.cast _) _)) _ _ _); (rename News _ _ _ (snap _ _) => mN); (rename St4 _ _ _ _ _ _ _ _ _ _ _ _ _ => mS); (have S9 := St4.at mS mN (fun _ h => h)); k_dflt (refine' item_rss ?S ?hi ?_ ?hs ?hg; (case S => with_reducible exact S9); (case hi => omega); (case hs => with_unfolding_all rfl); (case hg => (intro _; with_unfolding_all rfl)); clear S9)))
  (k_with "m call ref" => (k_here; (with_reducible show wpAny _ _ (call (Value.ref 138) [_, _]) _ _ _); (rename Fr _ _ _ _ => mF); (rename News _ _ _ (snap _ _) => mN); (rename St4 _ _ _ _ _ _ _ _ _ _ _ _ _ => mS); k_dflt ((have S9 := St4.at mS mN (fun _ h => h)); refine' pull_spec ?k1 ?k2 ?k3 ?k4 ?hk ?hdp ?hun ?S ?k5 ?k6 ?k7 ?k8 ?k9 ?_; (case k1 => k_asm); (case k2 => exact mF); (case S => exact St4.well S9); (case k3 => k_asm); (case k4 => k_asm); (case k5 => omega); (case k6 => exact Off.mono (St4.off S9) (fun b hb => f4_h (two_four hb))); (case k7 => exact (St4.ne S9).1); (case k8 => decide); (case k9 => decide); (case hk => exact rfl); (case hdp => walk_at "M room"); (case hun => walk_at "M room"); (intro h' tk' t' r' sp' r1 r2 p1 p2 F' W' K'; (have S' := St4.pulled S9 W' K'); (have N' := St4.news S'); clear W' K' S9 mS mN mF; (try k_fold)))))
  (k_with "m call ref" => (k_here; (with_reducible show wpAny _ _ (call (Value.ref 138) [_, _]) _ _ _); (rename Fr _ _ _ _ => mF); (rename News _ _ _ (_ :: snap _ _) => mN); (rename St4 _ _ _ _ _ _ _ _ _ _ _ _ _ => mS); k_dflt ((have S9 := St4.at mS mN (fun _ h => .tail _ h)); refine' pull_spec ?k1 ?k2 ?k3 ?k4 ?hk ?hdp ?hun ?S ?k5 ?k6 ?k7 ?k8 ?k9 ?_; (case k1 => k_asm); (case k2 => exact mF); (case S => exact St4.well S9); (case k3 => k_asm); (case k4 => k_asm); (case k5 => omega); (case k6 => exact Off.mono (St4.off S9) (fun b hb => f4_h (two_four hb))); (case k7 => exact (St4.ne S9).1); (case k8 => decide); (case k9 => decide); (case hk => exact rfl); (case hdp => walk_at "M room"); (case hun => walk_at "M room"); (intro h' tk' t' r' sp' r1 r2 p1 p2 F' W' K'; (have S' := St4.pulled S9 W' K'); (have N' := news_D mN S9 K' S'); clear W' K' S9 mS mN mF; (try k_fold)))))
  (k_with "m subscriptTail" => (k_here; (with_reducible show wpAny _ _ (subscriptTail _ _ (Value.ref _) (Value.int _ _)) _ _ _); (rename News _ _ _ (_ :: snap _ _) => mN); k_dflt (refine item_D mN ?h0 ?h3 ?_ ?hs ?hg; (case h0 => omega); (case h3 => omega); (case hs => with_unfolding_all rfl); (case hg => (intro _; with_unfolding_all rfl)); intro x7 t7 hx7)))
  (k_with "m M fresh" => ((rename News _ _ _ _ => mN); (rename St4 _ _ _ _ _ _ _ _ _ _ _ _ _ => mS); (have S8 := St4.at mS mN (by first | exact fun _ h => h | exact fun _ h => .tail _ h)); clear mN mS; (have N8 := St4.news S8)))
  (k_with "m subscriptTail" => (k_here; (with_reducible show wpAny _ _ (subscriptTail _ _ (Value.ref _) (Value.int 1 _)) _ _ _); (rename News _ _ _ (snap _ _) => mN); (rename St4 _ _ _ _ _ _ _ _ _ _ _ _ _ => mS); k_dflt (refine' item_els1 ?S ?_ ?hs ?hg; (case S => exact St4.at mS mN (fun _ h => h)); (case hs => with_unfolding_all rfl); (case hg => (intro _; with_unfolding_all rfl)))))
  (k_with "m call ref" => (k_here; (with_reducible show wpAny _ _ (call (Value.ref 176) [_, _, _, _, _]) _ _ _); (rename Fr _ _ _ _ => mF); (rename News _ _ _ (snap _ _) => mN); (rename St4 _ _ _ _ _ _ _ _ _ _ _ _ _ => mS); (rename Good _ _ _ => mG); (rename Nm _ => mx); k_dflt ((have S9 := St4.at mS mN (fun _ h => h)); refine' lb_done ?k1 ?k2 ?k3 ?k4 ?xb ?tb ?hk ?hdp ?hun ?S mG ?hn ?hi ?hi2 mx ?_; (case k1 => k_asm); (case k2 => exact mF); (case S => exact S9); (case k3 => k_asm); (case k4 => k_asm); (case xb => k_asm); (case tb => k_asm); (case hn => omega); (case hi => omega); (case hi2 => omega); (case hk => exact rfl); (case hdp => walk_at "M room"); (case hun => walk_at "M room"); (intro h' tk' t' F' S'; (have N' := St4.news S'); clear S9 mS mN mF; (try k_fold)))))
  (k_with "m call ref" => (k_here; (with_reducible show wpAny _ _ (call (Value.ref 152) [_, _, _]) _ _ _); (rename Fr _ _ _ _ => mF); (rename News _ _ _ (snap _ _) => mN); (rename St4 _ _ _ _ _ _ _ _ _ _ _ _ _ => mS); (rename Good _ _ _ => mG); (rename Nm _ => mx); k_dflt ((have S9 := St4.at mS mN (fun _ h => h)); refine' lb_bind ?k1 ?k2 ?k3 ?k4 ?hk ?hdp ?hun ?S mG ?hi ?hi2 mx ?ak ?_; (case k1 => k_asm); (case k2 => exact mF); (case S => exact S9); (case k3 => k_asm); (case k4 => k_asm); (case ak => omega); (case hi => omega); (case hi2 => omega); (case hk => exact rfl); (case hdp => walk_at "M room"); (case hun => walk_at "M room"); (intro h' tk' t' R' F' S' G'; (have N' := St4.news S'); clear S9 mS mN mF mG; (try k_fold)))))
  (k_with "m call ref" => (k_here; (with_reducible show wpAny _ _ (call (Value.ref 164) [_, _, _, _]) _ _ _); (rename Fr _ _ _ _ => mF); (rename News _ _ _ (snap _ _) => mN); (rename St4 _ _ _ _ _ _ _ _ _ _ _ _ _ => mS); (rename Good _ _ _ => mG); (rename Nm _ => mx); k_dflt ((have S9 := St4.at mS mN (fun _ h => h)); refine' lb_up ?k1 ?k2 ?k3 ?k4 ?hk ?hdp ?hun ?S mG ?hi ?hi2 mx ?ak ?bk ?_; (case k1 => k_asm); (case k2 => exact mF); (case S => exact S9); (case k3 => k_asm); (case k4 => k_asm); (case ak => omega); (case bk => omega); (case hi => omega); (case hi2 => omega); (case hk => exact rfl); (case hdp => walk_at "M room"); (case hun => walk_at "M room"); (intro h' tk' t' R' F' S' G'; (have N' := St4.news S'); clear S9 mS mN mF mG; (try k_fold)))))
  (k_with "m call ref" => (k_here; (with_reducible show wpAny _ _ (call (Value.ref 169) [_, _]) _ _ _); (rename Fr _ _ _ _ => mF); (rename News _ _ _ (snap _ _) => mN); (rename St4 _ _ _ _ _ _ _ _ _ _ _ _ _ => mS); (rename Good _ _ _ => mG); (rename Nm _ => mx); k_dflt ((have S9 := St4.at mS mN (fun _ h => h)); refine' lb_take ?k1 ?k2 ?k3 ?k4 ?hk ?hdp ?hun ?S mG ?hi ?hi2 mx ?ak ?bk ?_; (case k1 => k_asm); (case k2 => exact mF); (case S => exact S9); (case k3 => k_asm); (case k4 => k_asm); (case ak => omega); (case bk => omega); (case hi => omega); (case hi2 => omega); (case hk => exact rfl); (case hdp => walk_at "M room"); (case hun => walk_at "M room"); (intro h' tk' t' R' F' S' G'; (have N' := St4.news S'); clear S9 mS mN mF mG; (try k_fold)))))
  (k_with "m call ref" => (k_here; (with_reducible show wpAny _ _ (call (Value.ref 157) [_, _]) _ _ _); (rename Fr _ _ _ _ => mF); (rename News _ _ _ (snap _ _) => mN); (rename St4 _ _ _ _ _ _ _ _ _ _ _ _ _ => mS); k_dflt ((have S9 := St4.at mS mN (fun _ h => h)); refine' lb_has ?k1 ?k2 ?k3 ?k4 ?hk ?hdp ?hun ?S ?hi2 ?_; (case k1 => k_asm); (case k2 => exact mF); (case S => exact S9); (case k3 => k_asm); (case k4 => k_asm); (case hi2 => omega); (case hk => exact rfl); (case hdp => walk_at "M room"); (case hun => walk_at "M room"); (intro h' tk' F' S'; (have N' := St4.news S'); clear S9 mS mN mF; (try k_fold)))))
  (k_with "m compareOp NotEq str str" => (k_here; (with_reducible show wpAny _ _ (compareOp CmpOp.NotEq (Value.str _ _) (Value.str _ _)) _ _ _); (refine ne_same rfl ?_)))
  (k_with "m execs cons" => (k_here; (with_reducible show wpAny _ _ (execs [Stmt.Assign [Expr.Attribute _ _ _] (Expr.UnaryOp _ _ _) _, _] _) _ _ _); refine stopIt ?_))
  (k_with "m execs cons" => (k_here; (with_reducible show wpAny _ _ (execs [Stmt.Assign [Expr.Subscript _ _ _] _ _, Stmt.For _ _ _ _ _] _) _ _ _); refine stopIt ?_))
  trivial
section
variable {w : World} {mean : ExcName → Option Value} {mg mb : Str → Option Value} {dp un : Nat} {gd : Option (List Code)} {cs : Scope} {a : Addr} {ccd : Value} {A₀ : Around} {base h₀ : Heap} {L : Addr} {m : Str → Option Value} {s : Shared} {Q E : Value → Shared → Prop} {Q9 : Flow → Shared → Prop} {kind : Int} {tkd tp : Tok} {n : Nat}
  {x : Str} {tx : Tok} {v : Int} {tv : Tok} {R : Nat → RP} {P : Nat → EP} {wl rw el rs : Addr} {ex : List (Addr × Obj)} {xs : List Int} {sp : Int} {i : Nat} {tb : List Stmt} {lb : List Stmt} {r1 l1 e1 e2 e3 : Addr} {x1 x2 x3 : Str} {v1 v2 v3 : Int} {b1 b2 b3 c : Bool}
set_option maxRecDepth 100000 in
set_option maxHeartbeats 8000000 in
theorem turn_B
   (B : Below A₀ base [] h₀) (F : Fr h₀ L s.heap (fun y => if y = Str.ofString "row" then some (.ref (R i).r) else if y = Str.ofString "env" then some (.ref (P i).e) else if y = Str.ofString "name" then some (.str x tx) else if y = Str.ofString "place" then some (.int (i : Int) tp) else if y = Str.ofString "kind" then some (.int kind tkd) else if y = Str.ofString "deed" then some (.int v tv) else if y = Str.ofString "well" then some (.ref wl) else if y = Str.ofString "envs" then some (.ref el) else if y = Str.ofString "rows" then some (.ref rs) else m y)) (X : (hd.heap_39 w.params).In h₀) (T : Top VW LO mean mg mb h₀) (hb : bodyOf (hd.heap_39 w.params) 188 = lb) (hc : scopeOf (hd.heap_39 w.params) 188 = cs) (hdp : dp ≤ 310) (hun : un ≤ 20) (XB : (hd.heap_39 w.params).In base) (TB : Top VW LO mean mg mb base) (hE : PassesOwn (model PR w) (ktrTop dp un gd (Str.ofString "law") cs L a ccd [] []) (envOf (Str.ofString "law") cs L a ccd) E)
   (htb : forBody (nth lb 5) = tb)
   (S : St4 w h₀ L wl rw el rs ex xs P R sp s.heap) (G : Good P R n) (hsp : sp < 9000) (hn : n ≤ 9000) (k0 : 0 ≤ kind) (k12 : kind < 12) (i1 : 1 ≤ i) (i4 : i < 4) (hx : Nm x)
   (k : ∀ h' tk' m' P' R' sp', sp ≤ sp' → sp' ≤ sp + 1 → St4 w h₀ L wl rw el rs ex xs P' R' sp' h' → Good P' R' (n + 1) → Fr h₀ L h' m' → m' (Str.ofString "well") = some (.ref wl) → m' (Str.ofString "envs") = some (.ref el) → m' (Str.ofString "rows") = some (.ref rs) → Q9 .next { s with heap := h', toks := tk' })
   : wpAny (model PR w) (ktrTop dp un gd (Str.ofString "law") cs L a ccd [] []) (execs (tb.drop 5) (envOf (Str.ofString "law") cs L a ccd)) Q9 E s := by
  have hb0 := hb
  have hc0 := hc
  have hE0 := hE
  refine lit_use hb hc (by k_is) ?_
  intro e1 e2
  subst e2
  subst e1
  simp only [nth_0, nth_s, forBody_for] at htb
  subst htb
  simp only [List.drop_succ_cons, List.drop_zero]
  have N := S.news
  clear hb hc
  k_steps
  all_goals (rename News _ _ _ _ => n9)
  all_goals (rename Fr _ _ _ _ => f9)
  all_goals (rename St4 _ _ _ _ _ _ _ _ _ _ _ _ _ => S9)
  all_goals (have S8 := St4.at S9 n9 (fun _ h => h))
  all_goals (try unfold Stop)
  all_goals (try dsimp only)
  all_goals (try rename has _ _ = true => hh9)
  all_goals first
    | (rename Good _ _ _ => G9; exact k _ _ _ _ _ _ (by omega) (by omega) S8 (by first | exact G9 | exact G9.mono (Nat.le_succ _)) f9 rfl rfl rfl)
    | (refine toggle_spec B f9 X T hb0 hc0 hdp hun rfl S8 G i1 i4 fun h' tk' P' R' S' G' F' => ?_; dsimp only; refine wpAny_execs_nil ?_; try dsimp only
       all_goals first
         | (refine wpAny_execs_nil ?_; exact k _ _ _ _ _ _ (by omega) (by omega) S' G' F' rfl rfl rfl)
         | exact k _ _ _ _ _ _ (by omega) (by omega) S' G' F' rfl rfl rfl)
    | (rename has _ _ = true => hh9
       refine lock_spec B f9 X T hb0 hc0 hdp hun rfl S8 G (by omega) i1 i4 hh9 hE fun h' tk' m' P' R' S' G' F' e1 e2 e3 => ?_; dsimp only; refine wpAny_execs_nil ?_; dsimp only; refine wpAny_execs_nil ?_; try dsimp only
       all_goals first
         | (refine wpAny_execs_nil ?_; exact k _ _ _ _ _ _ (by omega) (by omega) S' G' F' e1 e2 e3)
         | exact k _ _ _ _ _ _ (by omega) (by omega) S' G' F' e1 e2 e3)
end
end
section
open PySem PySem.W PySem.Calls PyProof.Rows PyProof.V PySem.W.X
set_option linter.unusedVariables false
section
variable {w : World} {h₀ h h' : Heap} {L wl rw el rs : Addr} {ex : List (Addr × Obj)} {xs : List Int} {P : Nat → EP} {R : Nat → RP} {sp : Int}
theorem foot4_nil {b : Addr} : b ∈ foot4 wl rw el rs [] P R ↔ b ∈ [wl, rw, el, rs] ∨ b ∈ feet P ∨ b ∈ rfeet R := by
  constructor
  · intro hb
    rcases f4_cases hb with hb | hb | hb | ⟨p, hp, _⟩
    · exact .inl hb
    · exact .inr (.inl hb)
    · exact .inr (.inr hb)
    · cases hp
  · rintro (hb | hb | hb)
    · exact f4_h hb
    · exact f4_P hb
    · exact f4_R hb
theorem St4.addX (S : St4 w h₀ L wl rw el rs [] xs P R sp h) {I : Addr} {oI : Obj} (hI : I ∉ foot4 wl rw el rs [] P R) (eI : h.get? I = some oI) (hL : I ≠ L) (h0 : h₀.get? I = none) : St4 w h₀ L wl rw el rs [(I, oI)] xs P R sp h :=
  ⟨S.env, S.rows, S.well, S.els, S.rss, fun b hb => by
    rcases f4_cases hb with hb | hb | hb | ⟨p, hp, rfl⟩
    · exact S.off b (f4_h hb)
    · exact S.off b (f4_P hb)
    · exact S.off b (f4_R hb)
    · rw [List.mem_singleton.mp hp]; exact ⟨hL, h0⟩, S.heads, S.offP, S.offR, S.apart, fun p hp => by rw [List.mem_singleton.mp hp]; exact eI, fun p hp => by
    rw [List.mem_singleton.mp hp]
    exact ⟨fun q => hI (f4_h q), fun q => hI (f4_P q), fun q => hI (f4_R q)⟩⟩
theorem St4.dropX (S : St4 w h₀ L wl rw el rs ex xs P R sp h) : St4 w h₀ L wl rw el rs [] xs P R sp h :=
  ⟨S.env, S.rows, S.well, S.els, S.rss, fun b hb => by
    rcases foot4_nil.mp hb with hb | hb | hb
    · exact S.off b (f4_h hb)
    · exact S.off b (f4_P hb)
    · exact S.off b (f4_R hb), S.heads, S.offP, S.offR, S.apart, fun p hp => (nomatch hp), fun p hp => (nomatch hp)⟩
theorem St4.notX (S : St4 w h₀ L wl rw el rs ex xs P R sp h) {p : Addr × Obj} (hp : p ∈ ex) : p.1 ∉ foot4 wl rw el rs [] P R := fun hb => by
  have := S.offX p hp
  rcases foot4_nil.mp hb with hb | hb | hb
  · exact this.1 hb
  · exact this.2.1 hb
  · exact this.2.2 hb
end
theorem said_Deeds_1 : True := by
  k_with_none
  (k_with "m binaryOp Add str str" => (k_here; (with_reducible show wpAny _ _ (binaryOp Operator.Add (Value.str _ _) (Value.str _ _)) _ _ _); (refine' PyProof.Rows.add_str ?hh ?hsz; (case hsz => (have e1 := litA; have e2 := litB; have e3 := sz_line; (try rw [StrLaws.length_append]); omega)); intro t9 k9)))
  (k_with "m k_room" => first | k_dflt exact room_lt (k := 1) hdp rfl | k_dflt exact room_lt (k := 2) hdp rfl | k_dflt exact room_lt (k := 3) hdp rfl | k_dflt exact room_lt (k := 4) hdp rfl | k_dflt exact room_lt (k := 0) hdp rfl | decide | ((try simp only [depth_mark, depth_under_make, depth_under_kw, depth_in1, depth_deeper, depth_caller]); (try dsimp only [ktrTop]); (show (_ : Nat) < 1000); omega))
  (k_with "m k_units" => first | k_dflt exact unit_lt (k := 0) hun rfl | k_dflt exact unit_lt (k := 1) hun rfl | k_dflt exact unit_lt (k := 2) hun rfl | exact Nat.le_of_ble_eq_true rfl | ((try simp only [units_in1, units_deeper, Around.mark_units, units_caller]); (try dsimp only [ktrTop]); (show (_ : Nat) < 9900); omega))
  (k_with "m exec Raise some none" => (k_here; k_dflt (refine' raise_own ?hh ?_; (case hh => exact rfl))))
  (k_with "m call ref" => (k_here; (with_reducible show wpAny _ _ (call (Value.ref 44) [Value.str _ _]) _ _ _); (rename Fr _ _ _ _ => mF); k_dflt ((refine mk_K (by k_asm) mF (by k_asm) (by k_asm) (by (show (_ : Nat) ≤ 400; dsimp only; omega)) ?_); intro e dx t h' tk hh tm n F' N' st e1 e2 ne X'; (refine ⟨_, _, _, rfl, (N' _ (List.Mem.head _)).1, X', ?_⟩); (try k_unfold); (try dsimp only); (refine leave_refused (by k_asm) mF e1 e2 F' (N' _ (List.Mem.head _)).1 (N' _ (List.Mem.tail _ (List.Mem.head _))).1 (by first | assumption | exact stays_of (by assumption) mF (by k_asm)) st (by assumption) ?_ (by rfl)); intro h9 R9; (try dsimp only))))
  (k_with "m setItem ref str" => (k_here; k_dflt (refine' setItem_K PyProof.V.same_str (strKind_is _ _ _ _) ?v ?F ?N ?U ?d ?f ?_ ?z; (case F => k_asm); (case N => k_asm); (case U => k_updF); (case d => k_asm); (case f => k_asm); (case z => assumption); (case v => k_flat)); intro h' o' F' N' hd' hf'; (try dsimp only at N'); (try k_sweep)))
  (k_with "m M enter" => (refine wpAny_call ?_; k_dflt (refine' enter ?k1 ?k2 ?k3 ?k4 ?k5 ?kA ?kF ?kK ?k6 ?k7 ?k8 ?k9 ?kB ?_ ?c2 ?c3 ?c4 ?c5; (case kA => exact rfl); (case kF => exact rfl); (case kK => first | assumption | exact rfl); (case k1 => k_asm); (case k2 => k_asm); (case k3 => k_asm); (case k4 => k_asm); (case k5 => k_asm); (case k6 => k_is); (case k7 => k_is); (case k8 => (show (_ : Nat) < 1000; dsimp only; omega)); (case k9 => exact BindsTo.of_eq rfl); (case c5 => decide); (case kB => exact locs rfl); (case c2 => exact rfl); (case c3 => exact rfl); (case c4 => exact rfl); k_whole)))
  (k_with "m delItem ref str" => (k_here; k_dflt (refine' kt_del_K PyProof.V.same_str (strKind_is _ _ _ _) ?F ?N ?U ?d ?f ?l ?_ ?z; (case F => k_asm); (case N => k_asm); (case U => k_updF); (case d => k_asm); (case f => k_asm); (case l => first | with_reducible assumption | rfl); (case z => assumption)); intro h' o' F' N' hd' hf'; try dsimp only at N'))
  (k_with "m M room" => first | k_dflt exact room_le (k := 1) hdp rfl | k_dflt exact room_le (k := 0) hun rfl | k_dflt exact room_le (k := 1) hun rfl | k_dflt exact room_le (k := 2) hdp rfl | k_dflt exact room_le (k := 0) hdp rfl | ((try simp only [depth_mark, depth_under_make, depth_under_kw, depth_in1, depth_deeper, depth_caller, units_in1, units_deeper, Around.mark_units, units_caller]); (try dsimp only [ktrTop]); omega))
  (k_with "m subscriptTail" => (k_here; (with_reducible show wpAny _ _ (subscriptTail _ _ (Value.ref _) (Value.int (Nat.cast _) _)) _ _ _); (rename News _ _ _ (snap _ _) => mN); (rename St4 _ _ _ _ _ _ _ _ _ _ _ _ _ => mS); (have S9 := St4.at mS mN (fun _ h => h)); k_dflt (refine' item_els ?S ?hi ?_ ?hs ?hg; (case S => with_reducible exact S9); (case hi => omega); (case hs => with_unfolding_all rfl); (case hg => (intro _; with_unfolding_all rfl)); clear S9)))
  (k_with "m subscriptTail" => (k_here; (with_reducible show wpAny _ _ (subscriptTail _ _ (Value.ref _) (Value.int (Nat.cast _) _)) _ _ _); (rename News _ _ _ (snap _ _) => mN); (rename St4 _ _ _ _ _ _ _ _ _ _ _ _ _ => mS); (have S9 := St4.at mS mN (fun _ h => h)); k_dflt (refine' item_rss ?S ?hi ?_ ?hs ?hg; (case S => with_reducible exact S9); (case hi => omega); (case hs => with_unfolding_all rfl); (case hg => (intro _; with_unfolding_all rfl)); clear S9)))
  (k_with "m call ref" => (k_here; (with_reducible show wpAny _ _ (call (Value.ref 138) [_, _]) _ _ _); (rename Fr _ _ _ _ => mF); (rename News _ _ _ (snap _ _) => mN); (rename St4 _ _ _ _ _ _ _ _ _ _ _ _ _ => mS); k_dflt ((have S9 := St4.at mS mN (fun _ h => h)); refine' pull_spec ?k1 ?k2 ?k3 ?k4 ?hk ?hdp ?hun ?S ?k5 ?k6 ?k7 ?k8 ?k9 ?_; (case k1 => k_asm); (case k2 => exact mF); (case S => exact St4.well S9); (case k3 => k_asm); (case k4 => k_asm); (case k5 => omega); (case k6 => exact Off.mono (St4.off S9) (fun b hb => f4_h (two_four hb))); (case k7 => exact (St4.ne S9).1); (case k8 => decide); (case k9 => decide); (case hk => exact rfl); (case hdp => walk_at "M room"); (case hun => walk_at "M room"); (intro h' tk' t' r' sp' r1 r2 p1 p2 F' W' K'; (have S' := St4.pulled S9 W' K'); (have N' := St4.news S'); clear W' K' S9 mS mN mF; (try k_fold)))))
  (k_with "m call ref" => (k_here; (with_reducible show wpAny _ _ (call (Value.ref 138) [_, _]) _ _ _); (rename Fr _ _ _ _ => mF); (rename News _ _ _ (_ :: snap _ _) => mN); (rename St4 _ _ _ _ _ _ _ _ _ _ _ _ _ => mS); k_dflt ((have S9 := St4.at mS mN (fun _ h => .tail _ h)); refine' pull_spec ?k1 ?k2 ?k3 ?k4 ?hk ?hdp ?hun ?S ?k5 ?k6 ?k7 ?k8 ?k9 ?_; (case k1 => k_asm); (case k2 => exact mF); (case S => exact St4.well S9); (case k3 => k_asm); (case k4 => k_asm); (case k5 => omega); (case k6 => exact Off.mono (St4.off S9) (fun b hb => f4_h (two_four hb))); (case k7 => exact (St4.ne S9).1); (case k8 => decide); (case k9 => decide); (case hk => exact rfl); (case hdp => walk_at "M room"); (case hun => walk_at "M room"); (intro h' tk' t' r' sp' r1 r2 p1 p2 F' W' K'; (have S' := St4.pulled S9 W' K'); (have N' := news_D mN S9 K' S'); clear W' K' S9 mS mN mF; (try k_fold)))))
  (k_with "m subscriptTail" => (k_here; (with_reducible show wpAny _ _ (subscriptTail _ _ (Value.ref _) (Value.int _ _)) _ _ _); (rename News _ _ _ (_ :: snap _ _) => mN); k_dflt (refine item_D mN ?h0 ?h3 ?_ ?hs ?hg; (case h0 => omega); (case h3 => omega); (case hs => with_unfolding_all rfl); (case hg => (intro _; with_unfolding_all rfl)); intro x7 t7 hx7)))
  (k_with "m M fresh" => ((rename News _ _ _ _ => mN); (rename St4 _ _ _ _ _ _ _ _ _ _ _ _ _ => mS); (have S8 := St4.at mS mN (by first | exact fun _ h => h | exact fun _ h => .tail _ h)); clear mN mS; (have N8 := St4.news S8)))
  (k_with "m pyIter ref" => (k_here; refine stopIt ?_))
  trivial
section
variable {w : World} {mean : ExcName → Option Value} {mg mb : Str → Option Value} {dp un : Nat} {gd : Option (List Code)} {cs : Scope} {a : Addr} {ccd : Value} {A₀ : Around} {base h₀ : Heap} {L : Addr} {m : Str → Option Value} {s : Shared} {Q E : Value → Shared → Prop} {Q9 : Flow → Shared → Prop} {n : Nat} {st : Stmt}
  {x : Str} {tx : Tok} {v : Int} {tv : Tok} {R : Nat → RP} {P : Nat → EP} {wl rw el rs : Addr} {ex : List (Addr × Obj)} {xs : List Int} {sp : Int} {i : Nat} {tb : List Stmt} {lb : List Stmt} {r1 l1 e1 e2 e3 : Addr} {x1 x2 x3 : Str} {v1 v2 v3 : Int} {b1 b2 b3 c : Bool}
set_option maxRecDepth 100000 in
set_option maxHeartbeats 8000000 in
theorem deeds_spec
   (B : Below A₀ base [] h₀) (F : Fr h₀ L s.heap (fun y => if y = Str.ofString "well" then some (.ref wl) else if y = Str.ofString "envs" then some (.ref el) else if y = Str.ofString "rows" then some (.ref rs) else m y)) (X : (hd.heap_39 w.params).In h₀) (T : Top VW LO mean mg mb h₀) (hb : bodyOf (hd.heap_39 w.params) 188 = lb) (hc : scopeOf (hd.heap_39 w.params) 188 = cs) (hdp : dp ≤ 310) (hun : un ≤ 20) (XB : (hd.heap_39 w.params).In base) (TB : Top VW LO mean mg mb base) (hE : PassesOwn (model PR w) (ktrTop dp un gd (Str.ofString "law") cs L a ccd [] []) (envOf (Str.ofString "law") cs L a ccd) E)
   (hst : nth lb 5 = st)
   (S : St4 w h₀ L wl rw el rs [] xs P R sp s.heap) (G : Good P R n) (hsp : sp < 100) (hn : n ≤ 100)
   (k : ∀ h' tk' m' P' R' sp' n', St4 w h₀ L wl rw el rs [] xs P' R' sp' h' → Good P' R' n' → Fr h₀ L h' m' → m' (Str.ofString "well") = some (.ref wl) → m' (Str.ofString "envs") = some (.ref el) → m' (Str.ofString "rows") = some (.ref rs) → Q9 .next { s with heap := h', toks := tk' })
   : wpAny (model PR w) (ktrTop dp un gd (Str.ofString "law") cs L a ccd [] []) (exec st (envOf (Str.ofString "law") cs L a ccd)) Q9 E s := by
  have hb0 := hb
  have hc0 := hc
  refine lit_use hb hc (by k_is) ?_
  intro q1 q2
  subst q2
  subst q1
  simp only [nth_0, nth_s] at hst
  subst hst
  refine For_invVF F rfl rfl ?_ (hE := hE)
  have N := S.news
  clear hb hc
  k_steps
  unfold Stop
  rename News _ _ _ _ => n9
  rename Fr _ _ _ _ => f9
  rename St4 _ _ _ _ _ _ _ _ _ _ _ _ _ => S9
  rename IsRange _ _ _ _ _ _ _ _ => hr
  rename (0 : Int) ≤ _ => q0
  rename _ < (28 : Int) => q28
  try dsimp only
  have S8 := St4.at S9 n9 (fun _ h => h)
  refine each_range (fun j Fp h M => ∃ P R sp', Fp = foot4 wl rw el rs [] P R ∧ St4 w h₀ L wl rw el rs [] xs P R sp' h ∧ Good P R (n + j) ∧ sp' ≤ sp + 1 + 4 * (j : Int) ∧ M (Str.ofString "well") = some (.ref wl) ∧ M (Str.ofString "envs") = some (.ref el) ∧ M (Str.ofString "rows") = some (.ref rs)) (foot4 wl rw el rs [] P R)
    (fun j F h h' M hJ hk => by obtain ⟨P, R, sp', rfl, c, d⟩ := hJ; exact ⟨P, R, sp', rfl, c.keep hk, d⟩) (fun j F h M hJ => by obtain ⟨P, R, sp', rfl, c, d⟩ := hJ; exact c.off) (fun j F h M hJ => by obtain ⟨P, R, sp', rfl, c, d⟩ := hJ; exact c.there) rfl hr (small_one (by decide) (by decide) (by omega) (by omega)) (rangeSize_nat _ _) f9 ⟨P, R, _, rfl, S8, G, by omega, rfl, rfl, rfl⟩ ?_ ?_
  · intro j t F₁ M h tk I oI hj hJ hIF eI hIL hI0 Fr₁
    refine hJ.elim fun P hP => hP.elim fun R hR => hR.elim fun sp1 hJ => ?_
    rw [map4 hJ.2.2.2.2.1 hJ.2.2.2.2.2.1 hJ.2.2.2.2.2.2] at Fr₁
    rw [hJ.1] at hIF
    have hj' : j < 31 := by omega
    have hs1 := hJ.2.2.2.1
    refine turn_A B Fr₁ X T hb0 hc0 hdp hun rfl (hJ.2.1.addX hIF eI hIL hI0) (by omega) fun kind tkd i tp x tx h' tk' sp2 k0 k12 i1 i4 hx s1 s2 S' F' => ?_
    refine turn_B B F' X T hb0 hc0 hdp hun XB TB hE rfl S' hJ.2.2.1 (by omega) (by omega) k0 k12 i1 i4 hx fun h8 tk8 m8 P8 R8 sp3 u1 u2 S8 G8 F8 e1 e2 e3 => ?_
    exact ⟨h8, tk8, m8, _, rfl, F8, ⟨P8, R8, sp3, rfl, S8.dropX, G8, by omega, e1, e2, e3⟩, S8.notX (.head _), S8.ext _ (.head _), fun p hp => nomatch hp⟩
  · intro h' tk m' F' hJ Fr'
    refine hJ.elim fun P hP => hP.elim fun R hR => hR.elim fun sp' hJ => ?_
    exact k _ _ _ _ _ _ _ hJ.2.1 hJ.2.2.1 Fr' hJ.2.2.2.2.1 hJ.2.2.2.2.2.1 hJ.2.2.2.2.2.2
end
end
section
open PySem PySem.W PySem.Calls PyProof.Rows PyProof.V PySem.W.X
set_option linter.unusedVariables false
theorem get_frm {prog : Program} {w : World} {A : Around} {E0 : Value → Shared → Prop} {s : Shared} {d : Addr} {x : Str} {tx : Tok} {E : List Ent} {Q : Value → Shared → Prop} (T : TabAt (PySem.strKind prog w) PyData.str s.heap d (frmD E))
    (h : ∀ v b t, look x E = some (v, b) → Q (.int v t) { s with toks := s.toks + 1 }) (h' : look x E = none → Q .none { s with toks := s.toks + 1 }) : wpAny (model prog w) A (call (.builtin "dict.get") [.ref d, .str x tx]) Q E0 s := by
  refine call_get1_strTab T fun u hu => ?_
  rw [frmD_lookup] at hu
  cases q : look x E with
  | none => rw [q] at hu; rw [Flat.none_inv hu]; exact h' q
  | some p => rw [q] at hu; obtain ⟨t, rfl⟩ := Flat.int_inv hu; exact h p.1 p.2 t q
theorem said_Look_1 : True := by
  k_with_none
  (k_with "m call builtin:dict.get" => (k_here; (with_reducible show wpAny _ _ (call (Value.builtin "dict.get") [Value.ref _, Value.str _ _]) _ _ _); k_dflt (refine get_frm (by k_tabat) (fun v' b' t' hg' => ?_) (fun hg' => ?_))))
  (k_with "m binaryOp Add str str" => (k_here; (with_reducible show wpAny _ _ (binaryOp Operator.Add (Value.str _ _) (Value.str _ _)) _ _ _); (refine' PyProof.Rows.add_str ?hh ?hsz; (case hsz => (have e1 := litA; have e2 := litB; have e3 := sz_line; (try rw [StrLaws.length_append]); omega)); intro t9 k9)))
  (k_with "m k_room" => first | k_dflt exact room_lt (k := 1) hdp rfl | k_dflt exact room_lt (k := 2) hdp rfl | k_dflt exact room_lt (k := 3) hdp rfl | k_dflt exact room_lt (k := 4) hdp rfl | k_dflt exact room_lt (k := 0) hdp rfl | decide | ((try simp only [depth_mark, depth_under_make, depth_under_kw, depth_in1, depth_deeper, depth_caller]); (try dsimp only [ktrTop]); (show (_ : Nat) < 1000); omega))
  (k_with "m k_units" => first | k_dflt exact unit_lt (k := 0) hun rfl | k_dflt exact unit_lt (k := 1) hun rfl | k_dflt exact unit_lt (k := 2) hun rfl | exact Nat.le_of_ble_eq_true rfl | ((try simp only [units_in1, units_deeper, Around.mark_units, units_caller]); (try dsimp only [ktrTop]); (show (_ : Nat) < 9900); omega))
  (k_with "m exec Raise some none" => (k_here; k_dflt (refine' raise_own ?hh ?_; (case hh => exact rfl))))
  (k_with "m call ref" => (k_here; (with_reducible show wpAny _ _ (call (Value.ref 44) [Value.str _ _]) _ _ _); (rename Fr _ _ _ _ => mF); k_dflt ((refine mk_K (by k_asm) mF (by k_asm) (by k_asm) (by (show (_ : Nat) ≤ 400; dsimp only; omega)) ?_); intro e dx t h' tk hh tm n F' N' st e1 e2 ne X'; (refine ⟨_, _, _, rfl, (N' _ (List.Mem.head _)).1, X', ?_⟩); (try k_unfold); (try dsimp only); (refine leave_refused (by k_asm) mF e1 e2 F' (N' _ (List.Mem.head _)).1 (N' _ (List.Mem.tail _ (List.Mem.head _))).1 (by first | assumption | exact stays_of (by assumption) mF (by k_asm)) st (by assumption) ?_ (by rfl)); intro h9 R9; (try dsimp only))))
  (k_with "m setItem ref str" => (k_here; k_dflt (refine' setItem_K PyProof.V.same_str (strKind_is _ _ _ _) ?v ?F ?N ?U ?d ?f ?_ ?z; (case F => k_asm); (case N => k_asm); (case U => k_updF); (case d => k_asm); (case f => k_asm); (case z => assumption); (case v => k_flat)); intro h' o' F' N' hd' hf'; (try dsimp only at N'); (try k_sweep)))
  (k_with "m M enter" => (refine wpAny_call ?_; k_dflt (refine' enter ?k1 ?k2 ?k3 ?k4 ?k5 ?kA ?kF ?kK ?k6 ?k7 ?k8 ?k9 ?kB ?_ ?c2 ?c3 ?c4 ?c5; (case kA => exact rfl); (case kF => exact rfl); (case kK => first | assumption | exact rfl); (case k1 => k_asm); (case k2 => k_asm); (case k3 => k_asm); (case k4 => k_asm); (case k5 => k_asm); (case k6 => k_is); (case k7 => k_is); (case k8 => (show (_ : Nat) < 1000; dsimp only; omega)); (case k9 => exact BindsTo.of_eq rfl); (case c5 => decide); (case kB => exact locs rfl); (case c2 => exact rfl); (case c3 => exact rfl); (case c4 => exact rfl); k_whole)))
  (k_with "m delItem ref str" => (k_here; k_dflt (refine' kt_del_K PyProof.V.same_str (strKind_is _ _ _ _) ?F ?N ?U ?d ?f ?l ?_ ?z; (case F => k_asm); (case N => k_asm); (case U => k_updF); (case d => k_asm); (case f => k_asm); (case l => first | with_reducible assumption | rfl); (case z => assumption)); intro h' o' F' N' hd' hf'; try dsimp only at N'))
  (k_with "m M room" => first | k_dflt exact room_le (k := 1) hdp rfl | k_dflt exact room_le (k := 0) hun rfl | k_dflt exact room_le (k := 1) hun rfl | k_dflt exact room_le (k := 2) hdp rfl | k_dflt exact room_le (k := 0) hdp rfl | ((try simp only [depth_mark, depth_under_make, depth_under_kw, depth_in1, depth_deeper, depth_caller, units_in1, units_deeper, Around.mark_units, units_caller]); (try dsimp only [ktrTop]); omega))
  trivial
section
variable {w : World} {mean : ExcName → Option Value} {mg mb : Str → Option Value} {dp un : Nat} {gd : Option (List Code)} {cn : Str} {cs : Scope} {a : Addr} {ccd : Value} {cl : List (Str × Addr)} {outer : List Env} {A₀ : Around} {base h₀ : Heap} {L : Addr} {m : Str → Option Value} {s : Shared} {Q E : Value → Shared → Prop}
 {x : Str} {tx : Tok}
set_option maxRecDepth 100000 in
set_option maxHeartbeats 8000000 in
theorem here_1
 {eD : ED} {f1 l1 e1 d1 : Addr} {lk1 : Bool} {num : Int} {par : Value} {o1 : Obj} {kf1 : List (Str × Value)} {E1 : List Ent}
   (B : Below A₀ base outer h₀) (F : Fr h₀ L s.heap m) (X : (hd.heap_39 w.params).In h₀) (T : Top VW LO mean mg mb h₀) (hk : cs.kind = .function) (hdp : dp ≤ 390) (hun : un ≤ 900)
   (N : News h₀ L s.heap [(e1, instObj 127 d1), (d1, envD eD num par f1 lk1 l1), (f1, o1)])
   (ho1 : o1.IsDictOf (strKind PR w) kf1) (hf1 : FlatPairs PyData.str kf1 (frmD E1)) (lo1 : (f1 == sysModules) = false)
   (k1 : ∀ v b, look x E1 = some (v, b) → ∀ h' tk' t, Fr h₀ L h' m → Keep s.heap [] h' → Q (.int v t) { s with heap := h', toks := tk' })
   (k2 : look x E1 = none → ∀ h' tk', Fr h₀ L h' m → Keep s.heap [] h' → Q .none { s with heap := h', toks := tk' })
   : wpAny (model PR w) (ktrTop dp un gd cn cs L a ccd cl outer) (call (.ref 53) [.ref e1, .str x tx]) Q E s := by
  walk_at "M enter"
  intro g h₁ FG F' N' B' X' T' HD
  try dsimp only
  try k_fold
  k_steps
  all_goals ((rename News g _ _ _ => n9); (rename Fr g _ _ _ => f9); (try dsimp only); first
    | exact k1 _ _ (by assumption) _ _ _ (by k_asm) (keep_of HD f9 n9 _ (fun _ h => .inr h) rfl)
    | exact k2 (by assumption) _ _ (by k_asm) (keep_of HD f9 n9 _ (fun _ h => .inr h) rfl))
end
end
section
open PySem PySem.W PySem.Calls PyProof.Rows PyProof.V PySem.W.X
set_option linter.unusedVariables false
theorem said_Near_1 : True := by
  k_with_none
  (k_with "m binaryOp Add str str" => (k_here; (with_reducible show wpAny _ _ (binaryOp Operator.Add (Value.str _ _) (Value.str _ _)) _ _ _); (refine' PyProof.Rows.add_str ?hh ?hsz; (case hsz => (have e1 := litA; have e2 := litB; have e3 := sz_line; (try rw [StrLaws.length_append]); omega)); intro t9 k9)))
  (k_with "m k_room" => first | k_dflt exact room_lt (k := 1) hdp rfl | k_dflt exact room_lt (k := 2) hdp rfl | k_dflt exact room_lt (k := 3) hdp rfl | k_dflt exact room_lt (k := 4) hdp rfl | k_dflt exact room_lt (k := 0) hdp rfl | decide | ((try simp only [depth_mark, depth_under_make, depth_under_kw, depth_in1, depth_deeper, depth_caller]); (try dsimp only [ktrTop]); (show (_ : Nat) < 1000); omega))
  (k_with "m k_units" => first | k_dflt exact unit_lt (k := 0) hun rfl | k_dflt exact unit_lt (k := 1) hun rfl | k_dflt exact unit_lt (k := 2) hun rfl | exact Nat.le_of_ble_eq_true rfl | ((try simp only [units_in1, units_deeper, Around.mark_units, units_caller]); (try dsimp only [ktrTop]); (show (_ : Nat) < 9900); omega))
  (k_with "m exec Raise some none" => (k_here; k_dflt (refine' raise_own ?hh ?_; (case hh => exact rfl))))
  (k_with "m call ref" => (k_here; (with_reducible show wpAny _ _ (call (Value.ref 44) [Value.str _ _]) _ _ _); (rename Fr _ _ _ _ => mF); k_dflt ((refine mk_K (by k_asm) mF (by k_asm) (by k_asm) (by (show (_ : Nat) ≤ 400; dsimp only; omega)) ?_); intro e dx t h' tk hh tm n F' N' st e1 e2 ne X'; (refine ⟨_, _, _, rfl, (N' _ (List.Mem.head _)).1, X', ?_⟩); (try k_unfold); (try dsimp only); (refine leave_refused (by k_asm) mF e1 e2 F' (N' _ (List.Mem.head _)).1 (N' _ (List.Mem.tail _ (List.Mem.head _))).1 (by first | assumption | exact stays_of (by assumption) mF (by k_asm)) st (by assumption) ?_ (by rfl)); intro h9 R9; (try dsimp only))))
  (k_with "m setItem ref str" => (k_here; k_dflt (refine' setItem_K PyProof.V.same_str (strKind_is _ _ _ _) ?v ?F ?N ?U ?d ?f ?_ ?z; (case F => k_asm); (case N => k_asm); (case U => k_updF); (case d => k_asm); (case f => k_asm); (case z => assumption); (case v => k_flat)); intro h' o' F' N' hd' hf'; (try dsimp only at N'); (try k_sweep)))
  (k_with "m M enter" => (refine wpAny_call ?_; k_dflt (refine' enter ?k1 ?k2 ?k3 ?k4 ?k5 ?kA ?kF ?kK ?k6 ?k7 ?k8 ?k9 ?kB ?_ ?c2 ?c3 ?c4 ?c5; (case kA => exact rfl); (case kF => exact rfl); (case kK => first | assumption | exact rfl); (case k1 => k_asm); (case k2 => k_asm); (case k3 => k_asm); (case k4 => k_asm); (case k5 => k_asm); (case k6 => k_is); (case k7 => k_is); (case k8 => (show (_ : Nat) < 1000; dsimp only; omega)); (case k9 => exact BindsTo.of_eq rfl); (case c5 => decide); (case kB => exact locs rfl); (case c2 => exact rfl); (case c3 => exact rfl); (case c4 => exact rfl); k_whole)))
  (k_with "m delItem ref str" => (k_here; k_dflt (refine' kt_del_K PyProof.V.same_str (strKind_is _ _ _ _) ?F ?N ?U ?d ?f ?l ?_ ?z; (case F => k_asm); (case N => k_asm); (case U => k_updF); (case d => k_asm); (case f => k_asm); (case l => first | with_reducible assumption | rfl); (case z => assumption)); intro h' o' F' N' hd' hf'; try dsimp only at N'))
  (k_with "m M room" => first | k_dflt exact room_le (k := 1) hdp rfl | k_dflt exact room_le (k := 0) hun rfl | k_dflt exact room_le (k := 1) hun rfl | k_dflt exact room_le (k := 2) hdp rfl | k_dflt exact room_le (k := 0) hdp rfl | ((try simp only [depth_mark, depth_under_make, depth_under_kw, depth_in1, depth_deeper, depth_caller, units_in1, units_deeper, Around.mark_units, units_caller]); (try dsimp only [ktrTop]); omega))
  trivial
noncomputable def nearE (E : Nat → List Ent) : Nat → Str → Option Int
  | 0, x => (look x (E 0)).map (·.1)
  | i + 1, x => match look x (E (i + 1)) with | some p => some p.1 | none => nearE E i x
noncomputable def ValIs (v : Value) : Option Int → Prop
  | none => v = .none
  | some z => ∃ t, v = .int z t
theorem nearE_skip {E : Nat → List Ent} {x : Str} : ∀ {i l : Nat}, l ≤ i → (∀ j, l < j → j ≤ i → look x (E j) = none) → nearE E i x = nearE E l x
  | 0, 0, _, _ => rfl
  | i + 1, l, hl, h => by
    rcases Nat.lt_or_ge l (i + 1) with q | q
    · have := h (i + 1) q (Nat.le_refl _)
      show (match look x (E (i + 1)) with | some p => some p.1 | none => nearE E i x) = _
      rw [this]
      exact nearE_skip (Nat.le_of_lt_succ q) fun j a b => h j a (Nat.le_succ_of_le b)
    · rw [Nat.le_antisymm hl q]
theorem nearE_hit {E : Nat → List Ent} {x : Str} {l : Nat} {p : Int × Bool} (h : look x (E l) = some p) : nearE E l x = some p.1 := by
  cases l with
  | zero => show (look x (E 0)).map _ = _; rw [h]; rfl
  | succ l => show (match look x (E (l + 1)) with | some p => some p.1 | none => nearE E l x) = _; rw [h]
theorem nearE_none {E : Nat → List Ent} {x : Str} {i : Nat} (h : ∀ j ≤ i, look x (E j) = none) : nearE E i x = none := by
  rw [nearE_skip (Nat.zero_le i) fun j _ b => h j b]
  show (look x (E 0)).map _ = none
  rw [h 0 (Nat.zero_le _)]; rfl
structure RowsAt (rs : Addr) (R : Nat → RP) (n : Nat) (g : Heap) : Prop where
  rows : AllRows R g
  at_ : g.get? rs = some (rowsOf R n)
section
variable {prog : Program} {w : World} {A : Around} {E : Value → Shared → Prop} {s : Shared} {g h : Heap} {L rs : Addr} {m : Str → Option Value} {R : Nat → RP} {n : Nat} {Q : Value → Shared → Prop} {value slice : Expr}
theorem item_rsB (S : RowsAt rs R n g) (F : Fr g L s.heap m) {l : Nat} {u : Tok} (hl : l < 4) (h : Q (.ref (R l).r) s)
    (hs : subscripted slice false (.ref rs) (.int (l : Int) u) = operate [.ref rs, .int (l : Int) u] (getItem (.ref rs) (.int (l : Int) u))) (hg : ∀ r, letTemporaryGo value (.ref rs) r = pure ()) :
    wpAny (model prog w) A (subscriptTail value slice (.ref rs) (.int (l : Int) u)) Q E s :=
  item_list ⟨_, F.keep _ _ S.at_, rfl, _, rfl⟩ (by omega) (by omega) (four_at (f := fun i => .ref (R i).r) hl) h hs hg
theorem item_rB (S : RowsAt rs R n g) (F : Fr g L s.heap m) {l : Nat} {u : Tok} (hl : l < 4) (h : Q (.ref (R l).l) s)
    (hs : subscripted slice false (.ref (R l).r) (.int 0 u) = operate [.ref (R l).r, .int 0 u] (getItem (.ref (R l).r) (.int 0 u))) (hg : ∀ r, letTemporaryGo value (.ref (R l).r) r = pure ()) :
    wpAny (model prog w) A (subscriptTail value slice (.ref (R l).r) (.int 0 u)) Q E s := by
  obtain ⟨n, e⟩ := (S.rows.st l hl).row
  exact item_list ⟨_, F.keep _ _ e, rfl, _, rfl⟩ (by decide) (by decide) rfl h hs hg
structure EntAt (e : Addr) (p : Ent) (t u : Tok) (n : Nat) (g : Heap) : Prop where
  at_ : g.get? e = some (PySem.W.listOf #[.str p.1 t, .int p.2.1 u, .bool p.2.2] n)
theorem item_e0 {e : Addr} {p : Ent} {t u' : Tok} (S : EntAt e p t u' n g) (F : Fr g L s.heap m) {u : Tok} (h : Q (.str p.1 t) s)
    (hs : subscripted slice false (.ref e) (.int 0 u) = operate [.ref e, .int 0 u] (getItem (.ref e) (.int 0 u))) (hg : ∀ r, letTemporaryGo value (.ref e) r = pure ()) :
    wpAny (model prog w) A (subscriptTail value slice (.ref e) (.int 0 u)) Q E s := item_list ⟨_, F.keep _ _ S.at_, rfl, _, rfl⟩ (by decide) (by decide) rfl h hs hg
theorem item_e1 {e : Addr} {p : Ent} {t u' : Tok} (S : EntAt e p t u' n g) (F : Fr g L s.heap m) {u : Tok} (h : Q (.int p.2.1 u') s)
    (hs : subscripted slice false (.ref e) (.int 1 u) = operate [.ref e, .int 1 u] (getItem (.ref e) (.int 1 u))) (hg : ∀ r, letTemporaryGo value (.ref e) r = pure ()) :
    wpAny (model prog w) A (subscriptTail value slice (.ref e) (.int 1 u)) Q E s := item_list ⟨_, F.keep _ _ S.at_, rfl, _, rfl⟩ (by decide) (by decide) rfl h hs hg
end
theorem said_Near_2 : True := by
  (k_with "m subscriptTail" => (k_here; (with_reducible show wpAny _ _ (subscriptTail _ _ (Value.ref _) (Value.int (Nat.cast _) _)) _ _ _); (rename RowsAt _ _ _ _ => mR); k_dflt (refine' item_rsB ?S ?F ?hi ?_ ?hs ?hg; (case S => exact mR); (case F => k_asm); (case hi => omega); (case hs => with_unfolding_all rfl); (case hg => (intro _; with_unfolding_all rfl)))))
  (k_with "m subscriptTail" => (k_here; (with_reducible show wpAny _ _ (subscriptTail _ _ (Value.ref (RP.r _)) (Value.int 0 _)) _ _ _); (rename RowsAt _ _ _ _ => mR); k_dflt (refine' item_rB ?S ?F ?hi ?_ ?hs ?hg; (case S => exact mR); (case F => k_asm); (case hi => omega); (case hs => with_unfolding_all rfl); (case hg => (intro _; with_unfolding_all rfl)))))
  (k_with "m subscriptTail" => (k_here; (with_reducible show wpAny _ _ (subscriptTail _ _ (Value.ref _) (Value.int 0 _)) _ _ _); (rename EntAt _ _ _ _ _ _ => mR); k_dflt (refine' item_e0 ?S ?F ?_ ?hs ?hg; (case S => exact mR); (case F => k_asm); (case hs => with_unfolding_all rfl); (case hg => (intro _; with_unfolding_all rfl)))))
  (k_with "m subscriptTail" => (k_here; (with_reducible show wpAny _ _ (subscriptTail _ _ (Value.ref _) (Value.int 1 _)) _ _ _); (rename EntAt _ _ _ _ _ _ => mR); k_dflt (refine' item_e1 ?S ?F ?_ ?hs ?hg; (case S => exact mR); (case F => k_asm); (case hs => with_unfolding_all rfl); (case hg => (intro _; with_unfolding_all rfl)))))
  (k_with "m call type:range" => (k_here; (with_reducible show wpAny _ _ (call _ [_, _, _]) _ _ _); (rename Fr _ _ _ _ => F'); (rename News _ _ _ _ => N'); (with_unfolding_all refine range3_rows F' N' (by first | decide | omega | (simp only [Bool.and_eq_true, Bool.or_eq_true, decide_eq_true_eq, Bool.not_eq_true', decide_eq_false_iff_not, bne_iff_ne, beq_iff_eq]; omega)) ?_); intro _ _ _ _ _ _ _ _ _))
  (k_with "m exec For Name Call cons nil" => (k_here; (rename Fr _ _ _ _ => lF'); (with_unfolding_all refine' For_invVF lF' rfl rfl ?_); k_whole))
  (k_with "m exec For Name Subscript cons nil" => (k_here; (rename Fr _ _ _ _ => lF'); (with_unfolding_all refine' For_invVF lF' rfl rfl ?_); k_whole))
  (k_with "m pyIter ref" => (k_here; refine stopN ?_))
  trivial
section
variable {w : World} {mean : ExcName → Option Value} {mg mb : Str → Option Value} {dp un : Nat} {gd : Option (List Code)} {cn : Str} {cs : Scope} {a : Addr} {ccd : Value} {cl : List (Str × Addr)} {outer : List Env} {A₀ : Around} {base h₀ : Heap} {L : Addr} {m : Str → Option Value} {s : Shared} {Q E : Value → Shared → Prop}
  {x : Str} {tx : Tok} {v : Int} {tv : Tok} {R : Nat → RP} {rs : Addr} {nr i : Nat} {tp : Tok} {r1 l1 e1 e2 e3 : Addr} {x1 x2 x3 : Str} {v1 v2 v3 : Int} {b1 b2 b3 c : Bool}
set_option maxRecDepth 100000 in
set_option maxHeartbeats 8000000 in
theorem near_spec
   (B : Below A₀ base outer h₀) (F : Fr h₀ L s.heap m) (X : (hd.heap_39 w.params).In h₀) (T : Top VW LO mean mg mb h₀) (hk : cs.kind = .function) (hdp : dp ≤ 370) (hun : un ≤ 860)
   (S : AllRows R s.heap) (hrs : s.heap.get? rs = some (rowsOf R nr)) (hi : i < 4)
   (k : ∀ h' tk' v, ValIs v (nearE (fun j => (R j).E) i x) → Fr h₀ L h' m → Keep s.heap [] h' → Q v { s with heap := h', toks := tk' })
   : wpAny (model PR w) (ktrTop dp un gd cn cs L a ccd cl outer) (call (.ref 183) [.ref rs, .int (i : Int) tp, .str x tx]) Q E s := by
  have N : News h₀ L s.heap [] := News.nil
  walk_at "M enter"
  intro g h₁ FG F' N' B' X' T' HD
  have mR : RowsAt rs R nr g := ⟨S.keep fun b _ o e => HD.get _ _ e fun p hp => (nomatch hp), HD.get _ _ hrs fun p hp => (nomatch hp)⟩
  clear S hrs
  try dsimp only
  try k_fold
  k_steps
  unfold StopN
  try dsimp only
  rename IsRange _ _ _ _ _ _ _ _ => hr
  rename Fr g _ _ _ => f9
  refine each_down (fun j F h M => F = [] ∧ M (Str.ofString "rows") = some (.ref rs) ∧ M (Str.ofString "name") = some (.str x tx) ∧ ∀ l, i < l + j → l ≤ i → look x (R l).E = none) []
    (fun j F h h' M hJ hk => hJ) (fun j F h M hJ b hb => by rw [hJ.1] at hb; cases hb) (fun j F h M hJ b hb => by rw [hJ.1] at hb; cases hb) rfl hr (small_down (by omega) (by omega) (by decide) (by decide)) (rangeSize_downNat _ _) f9 ⟨rfl, rfl, rfl, fun l a b => absurd a (by omega)⟩ ?_ ?_
  · intro j t F₁ M h tk I oI hj hJ _ eI hIL hI0 Fr₁
    obtain ⟨l, hl⟩ : ∃ l, l = i - j := ⟨_, rfl⟩
    have e3 : (i : Int) - (j : Int) = (l : Int) := by omega
    rw [e3, map2 hJ.2.1 hJ.2.2.1] at Fr₁
    have hn := hJ.2.2.2
    have hl4 : l < 4 := by omega
    clear f9 hr e3 hJ
    have N9 : News g s.heap.objs.size h [] := News.nil
    k_steps
    unfold StopN
    try dsimp only
    rename Fr g _ _ _ => f8
    rename RowsAt _ _ _ _ => mR
    refine (mR.rows.st l hl4).lst.elim fun nl el => ?_
    refine each_base (fun kk F h M => F = [I] ∧ h.get? I = some oI ∧ M (Str.ofString "rows") = some (.ref rs) ∧ M (Str.ofString "name") = some (.str x tx) ∧ ∀ j' < kk, ∀ q, (R l).E[j']? = some q → q.1 ≠ x) [I]
      (fun kk F h h' M hJ hk => ⟨hJ.1, hk I (by rw [hJ.1]; exact .head _) _ hJ.2.1, hJ.2.2⟩) (fun kk F h M hJ b hb => by rw [hJ.1] at hb; rw [List.mem_singleton.mp hb]; exact ⟨hIL, hI0⟩) (fun kk F h M hJ b hb => by rw [hJ.1] at hb; rw [List.mem_singleton.mp hb]; exact ⟨_, hJ.2.1⟩) rfl ⟨_, el, rfl, _, rfl⟩ f8 ⟨rfl, eI, rfl, rfl, fun j' a => absurd a (Nat.not_lt_zero _)⟩ ?_ ?_
    · intro kk v F₂ M2 h2 tk2 I2 oI2 hv hJ hI2 eI2 hI2L hI20 Fr₂
      refine row_at hv (mR.rows.st l hl4) fun e y z b t' u' n' _ _ _ ep hpE hve => ?_
      have mE : EntAt e (y, z, b) t' u' n' g := ⟨ep⟩
      rw [map2 hJ.2.2.1 hJ.2.2.2.1, hve] at Fr₂
      have eI' := hJ.2.1
      have hq := hJ.2.2.2.2
      have hF := hJ.1
      clear f8 hJ hv hve
      have N9 : News g s.heap.objs.size h2 [] := News.nil
      k_steps
      · rename (_ == x) = true => hy
        rename Fr g _ _ _ => f7
        rename News g _ _ _ => n7
        dsimp only [EachPost]
        k_steps
        have := look_at hpE hq (eq_of_beq hy)
        exact k _ _ _ (by rw [nearE_skip (l := l) (by omega) fun j' b c => hn j' (by omega) c, nearE_hit this]; exact ⟨_, rfl⟩) (by k_asm) (keep0 HD f7 n7 (fun _ h => nomatch h))
      · rename (_ == x) = false => hy
        rename Fr g _ _ _ => f7
        try dsimp only
        refine ⟨_, _, _, _, rfl, f7, ⟨rfl, eI', rfl, rfl, fun j' hj' q hq' => ?_⟩, hF ▸ hI2, eI2, fun p hp => nomatch hp⟩
        rcases Nat.lt_or_ge j' kk with z | z
        · exact hq j' z q hq'
        · have : j' = kk := by omega
          rw [this, hpE] at hq'
          rw [← Option.some.inj hq']
          intro e; dsimp only at e; rw [e] at hy; simp at hy
    · intro h' tk' m' F' hJ Fr'
      dsimp only
      have hq := hJ.2.2.2.2
      refine wpAny_execs_nil ?_
      refine ⟨_, _, _, _, rfl, Fr', ⟨rfl, hJ.2.2.1, hJ.2.2.2.1, fun l' b c => ?_⟩, by simp, hJ.2.1, fun p hp => nomatch hp⟩
      rcases Nat.lt_or_ge i (l' + j) with z | z
      · exact hn l' z c
      · have : l' = l := by omega
        rw [this]
        exact look_no fun j' hj' q hq' => hq j' (by rw [show ((R l).D.map fun p => Value.ref p.1).toArray.size = (R l).E.length by simp [RP.E]]; exact hj') q hq'
  · intro h' tk' m' F' hJ Fr'
    dsimp only
    have hn := hJ.2.2.2
    clear f9 hr hJ
    have N9 : News g s.heap.objs.size h' [] := News.nil
    k_steps
    rename Fr g _ _ _ => f7
    rename News g _ _ _ => n7
    exact k _ _ _ (by rw [nearE_none fun j' hj' => hn j' (by omega) hj']; rfl) (by k_asm) (keep0 HD f7 n7 (fun _ h => nomatch h))
end
end
section
open PySem PySem.W PySem.Calls PyProof.Rows PyProof.V PySem.W.X
set_option linter.unusedVariables false
theorem strs_of : ∀ (vs : List Value) (ss : List Str), vs.length = ss.length → (∀ (j : Nat) (v : Value), vs[j]? = some v → ∃ (x : Str) (t : Tok), v = Value.str x t ∧ ss[j]? = some x) → StrsAre vs ss
  | [], [], _, _ => .nil
  | [], _ :: _, h, _ => by simp at h
  | _ :: _, [], h, _ => by simp at h
  | v :: vs, x :: ss, h, k => by
    obtain ⟨y, t, rfl, e⟩ := k 0 v rfl
    have : y = x := (Option.some.inj e).symm
    subst this
    exact .cons y t (strs_of vs ss (by simpa using h) fun j v hv => by
      obtain ⟨z, t, e1, e2⟩ := k (j + 1) v (by simpa using hv)
      exact ⟨z, t, e1, by simpa using e2⟩)
section
variable {prog : Program} {w : World} {A : Around} {E0 : Value → Shared → Prop} {s : Shared} {h₀ : Heap} {L d : Addr} {m : Str → Option Value} {news : List (Addr × Obj)} {Q : Value → Shared → Prop}
theorem sorted_dict {E : List Ent} (hh : A.handled = none) (F : Fr h₀ L s.heap m) (N : News h₀ L s.heap news) (Ta : TabAt (PySem.strKind prog w) PyData.str s.heap d (frmD E)) (hn : E.length ≤ 60)
    (h : ∀ B h' tk vs ss c, Fr h₀ L h' m → News h₀ L h' ((B, PySem.W.listOf (List.toArray vs) c) :: news) → (∀ q ∈ news, q.1 < B) → StrsAre vs ss → ss.Perm (E.map (·.1)) → sortedS ss = true → Q (.ref B) { s with heap := h', toks := tk }) :
    wpAny (model prog w) A (call (.builtin "sorted") [.ref d]) Q E0 s := by
  obtain ⟨lo, kvs, hD, hf⟩ := Ta
  obtain ⟨ep, hat⟩ := hD.dictAt
  have hlen : kvs.length = E.length := by have := hf.length; rw [frmD_length] at this; omega
  refine kdu_sorted (kdl_dict (knd := PySem.strKind prog w) (kvs := kvs) (ep := ep) lo) hh F N hat (by rw [sizeLine_eq]; omega) fun B h' tk vs F' N' l1 hl hv => ?_
  have hS : StrsAre vs (E.map (·.1)) := strs_of vs _ (by rw [hl, hlen, List.length_map]) fun j v e => by
    obtain ⟨k, x, hx, hk⟩ := hv j v e
    obtain ⟨dv, hd, _⟩ := hf.at hx
    obtain ⟨t, rfl⟩ := Value.isStrOf_shape hk
    refine ⟨k, t, rfl, ?_⟩
    unfold frmD at hd
    rw [List.getElem?_map] at hd ⊢
    cases q : E[j]? with
    | none => rw [q] at hd; cases hd
    | some p => rw [q] at hd; cases hd; rfl
  have hB := N' _ (.head _)
  have h64 : vs.length < 64 := by omega
  refine wpAny_call_entry slot_list_sort ⟨_, hB.1, rfl⟩ entry_list_sort (list_sort_treeK strKind_oneLt hB.1 hS.keysOf (fun v₁ v₂ rest e => keyKind_strs (by rw [← e]; exact hS)) h64 fun st' a1 a2 => ⟨_, rfl, ?_⟩) (args_list_sort _)
  obtain ⟨ss', b1, b2, b3⟩ := sorted_out_str hS a1 a2
  obtain ⟨c, hc⟩ := sortedHeap_at (vs := vs) (out := (arrOf st').map (·.2)) hB.1
  have old : ∀ b o, h'.get? b = some o → b ≠ B → (sortedHeap h' B vs ((arrOf st').map (·.2))).get? b = some o := fun b o e n => (sortedHeap_old n (Heap.lt_size e)).trans e
  have hF : Fr h₀ L (sortedHeap h' B vs ((arrOf st').map (·.2))) m := by
    obtain ⟨oL, es, ep', hL, r⟩ := F'.ns
    refine ⟨⟨oL, es, ep', old _ _ hL hB.2.1.symm, r⟩, fun b o e => old _ _ (F'.keep _ _ e) fun q => ?_, F'.above⟩
    rw [q, hB.2.2] at e; cases e
  refine h B _ _ ((arrOf st').map (·.2)).toList ss' c hF ?_ l1 b1 b2 b3
  refine nc ⟨hc, hB.2⟩ fun q hq => ?_
  have z := N' q (.tail _ hq)
  exact ⟨old _ _ z.1 fun e => absurd (l1 q hq) (by rw [e]; exact Nat.lt_irrefl _), z.2⟩
end
end
section
open PySem PySem.W PySem.Calls PyProof.Rows PyProof.V PySem.W.X
set_option linter.unusedVariables false
theorem said_Names_1 : True := by
  k_with_none
  (k_with "m binaryOp Add str str" => (k_here; (with_reducible show wpAny _ _ (binaryOp Operator.Add (Value.str _ _) (Value.str _ _)) _ _ _); (refine' PyProof.Rows.add_str ?hh ?hsz; (case hsz => (have e1 := litA; have e2 := litB; have e3 := sz_line; (try rw [StrLaws.length_append]); omega)); intro t9 k9)))
  (k_with "m k_room" => first | k_dflt exact room_lt (k := 1) hdp rfl | k_dflt exact room_lt (k := 2) hdp rfl | k_dflt exact room_lt (k := 3) hdp rfl | k_dflt exact room_lt (k := 4) hdp rfl | k_dflt exact room_lt (k := 0) hdp rfl | decide | ((try simp only [depth_mark, depth_under_make, depth_under_kw, depth_in1, depth_deeper, depth_caller]); (try dsimp only [ktrTop]); (show (_ : Nat) < 1000); omega))
  (k_with "m k_units" => first | k_dflt exact unit_lt (k := 0) hun rfl | k_dflt exact unit_lt (k := 1) hun rfl | k_dflt exact unit_lt (k := 2) hun rfl | exact Nat.le_of_ble_eq_true rfl | ((try simp only [units_in1, units_deeper, Around.mark_units, units_caller]); (try dsimp only [ktrTop]); (show (_ : Nat) < 9900); omega))
  (k_with "m exec Raise some none" => (k_here; k_dflt (refine' raise_own ?hh ?_; (case hh => exact rfl))))
  (k_with "m call ref" => (k_here; (with_reducible show wpAny _ _ (call (Value.ref 44) [Value.str _ _]) _ _ _); (rename Fr _ _ _ _ => mF); k_dflt ((refine mk_K (by k_asm) mF (by k_asm) (by k_asm) (by (show (_ : Nat) ≤ 400; dsimp only; omega)) ?_); intro e dx t h' tk hh tm n F' N' st e1 e2 ne X'; (refine ⟨_, _, _, rfl, (N' _ (List.Mem.head _)).1, X', ?_⟩); (try k_unfold); (try dsimp only); (refine leave_refused (by k_asm) mF e1 e2 F' (N' _ (List.Mem.head _)).1 (N' _ (List.Mem.tail _ (List.Mem.head _))).1 (by first | assumption | exact stays_of (by assumption) mF (by k_asm)) st (by assumption) ?_ (by rfl)); intro h9 R9; (try dsimp only))))
  (k_with "m setItem ref str" => (k_here; k_dflt (refine' setItem_K PyProof.V.same_str (strKind_is _ _ _ _) ?v ?F ?N ?U ?d ?f ?_ ?z; (case F => k_asm); (case N => k_asm); (case U => k_updF); (case d => k_asm); (case f => k_asm); (case z => assumption); (case v => k_flat)); intro h' o' F' N' hd' hf'; (try dsimp only at N'); (try k_sweep)))
  (k_with "m M enter" => (refine wpAny_call ?_; k_dflt (refine' enter ?k1 ?k2 ?k3 ?k4 ?k5 ?kA ?kF ?kK ?k6 ?k7 ?k8 ?k9 ?kB ?_ ?c2 ?c3 ?c4 ?c5; (case kA => exact rfl); (case kF => exact rfl); (case kK => first | assumption | exact rfl); (case k1 => k_asm); (case k2 => k_asm); (case k3 => k_asm); (case k4 => k_asm); (case k5 => k_asm); (case k6 => k_is); (case k7 => k_is); (case k8 => (show (_ : Nat) < 1000; dsimp only; omega)); (case k9 => exact BindsTo.of_eq rfl); (case c5 => decide); (case kB => exact locs rfl); (case c2 => exact rfl); (case c3 => exact rfl); (case c4 => exact rfl); k_whole)))
  (k_with "m delItem ref str" => (k_here; k_dflt (refine' kt_del_K PyProof.V.same_str (strKind_is _ _ _ _) ?F ?N ?U ?d ?f ?l ?_ ?z; (case F => k_asm); (case N => k_asm); (case U => k_updF); (case d => k_asm); (case f => k_asm); (case l => first | with_reducible assumption | rfl); (case z => assumption)); intro h' o' F' N' hd' hf'; try dsimp only at N'))
  (k_with "m M room" => first | k_dflt exact room_le (k := 1) hdp rfl | k_dflt exact room_le (k := 0) hun rfl | k_dflt exact room_le (k := 1) hun rfl | k_dflt exact room_le (k := 2) hdp rfl | k_dflt exact room_le (k := 0) hdp rfl | ((try simp only [depth_mark, depth_under_make, depth_under_kw, depth_in1, depth_deeper, depth_caller, units_in1, units_deeper, Around.mark_units, units_caller]); (try dsimp only [ktrTop]); omega))
  (k_with "m k_all" => with_reducible assumption)
  (k_with "m call builtin:sorted" => (k_here; (with_reducible show wpAny _ _ (call (Value.builtin "sorted") [Value.ref _]) _ _ _); (rename Fr _ _ _ _ => mF); (rename News _ _ _ _ => mN); k_dflt (refine' sorted_dict ?c1 ?c2 ?c3 ?c4 ?c5 ?_; (case c1 => exact rfl); (case c2 => exact mF); (case c3 => exact mN); (case c4 => k_tabat); (case c5 => assumption); intro B9 hq3 tkq2 vs9 ss9 c9 f9 n9 l9 s1 s2 s3; clear mF mN; (try k_lt l9))))
  (k_with "m exec For Name Call cons nil" => (k_here; (rename Fr _ _ _ _ => lF'); (with_unfolding_all refine' For_invVF lF' rfl rfl ?_); k_whole))
  (k_with "m pyIter ref" => (k_here; refine stopN ?_))
  (k_with "m call builtin:list.append" => (k_here; (with_reducible show wpAny _ _ (call (Value.builtin _) [Value.ref _, _]) _ _ _); k_dflt (refine' append_K ?k1 ?k2 ?k3 ?_ ?z; (case k1 => k_asm); (case k2 => k_asm); (case k3 => k_upd); (case z => assumption); k_whole); intro h' F' N'))
  trivial
noncomputable def dotted (y : Str) : Bool := Txt.startswith y (Str.ofString ".")
section
variable {w : World} {mean : ExcName → Option Value} {mg mb : Str → Option Value} {dp un : Nat} {gd : Option (List Code)} {cn : Str} {cs : Scope} {a : Addr} {ccd : Value} {cl : List (Str × Addr)} {outer : List Env} {A₀ : Around} {base h₀ : Heap} {L : Addr} {m : Str → Option Value} {s : Shared} {Q E : Value → Shared → Prop}
  {x : Str} {tx : Tok} {v : Int} {tv : Tok} {hid : Bool} {e d f pl : Addr} {eD : ED} {num : Int} {par : Value} {pc : Bool} {nd : Nat} {oF : Obj} {kf : List (Str × Value)} {Ent0 : List Ent} {r1 l1 e1 e2 e3 : Addr} {x1 x2 x3 : Str} {v1 v2 v3 : Int} {b1 b2 b3 c : Bool}
theorem strs_snoc : ∀ {us : List Value} {ss : List Str} {y : Str} {t : Tok}, StrsAre us ss → StrsAre (us ++ [.str y t]) (ss ++ [y])
  | _, _, _, _, .nil => .cons _ _ .nil
  | _, _, _, _, .cons x u r => .cons x u (strs_snoc r)
theorem strs_at {us : List Value} {ss : List Str} (h : StrsAre us ss) : ∀ {j : Nat} {v : Value}, us[j]? = some v → ∃ (y : Str) (t : Tok), v = .str y t ∧ ss[j]? = some y := by
  induction h with
  | nil => intro j v h; simp at h
  | cons y t r ih =>
    intro j v h
    cases j with
    | zero => exact ⟨y, t, (by simpa using h.symm), rfl⟩
    | succ j => obtain ⟨y', t', a, b⟩ := ih (j := j) (by simpa using h); exact ⟨y', t', a, by simpa using b⟩
set_option maxRecDepth 100000 in
set_option maxHeartbeats 8000000 in
theorem names_spec
   (B : Below A₀ base outer h₀) (F : Fr h₀ L s.heap m) (X : (hd.heap_39 w.params).In h₀) (T : Top VW LO mean mg mb h₀) (hk : cs.kind = .function) (hdp : dp ≤ 370) (hun : un ≤ 860)
   (N : News h₀ L s.heap [(e, instObj 127 d), (d, envD eD num par f pc pl), (f, oF)]) (ho : oF.IsDictOf (strKind PR w) kf) (hf : FlatPairs PyData.str kf (frmD Ent0)) (lo : (f == sysModules) = false) (hlen : Ent0.length ≤ 60)
   (k : ∀ h' tk' D vs ss ss0 c, Fr h₀ L h' m → Keep s.heap [] h' → (h'.get? D = some (PySem.W.listOf (List.toArray vs) c) ∧ D ≠ L ∧ h₀.get? D = none) → StrsAre vs ss → ss0.Perm (Ent0.map (·.1)) → sortedS ss0 = true → ss = ss0.filter (fun y => hid || !dotted y) → Q (.ref D) { s with heap := h', toks := tk' })
   : wpAny (model PR w) (ktrTop dp un gd cn cs L a ccd cl outer) (call (.ref 109) [.ref e, .bool hid]) Q E s := by
  walk_at "M enter"
  intro g h₁ FG F' N' B' X' T' HD
  have N0 := N'
  try dsimp only
  try k_fold
  k_steps
  unfold StopN
  try dsimp only
  rename_i fl hq1 lq1 hq2
  have zf := n9 _ (.tail _ (.head _))
  have zB := n9 _ (.head _)
  have offF : Off g s.heap.objs.size [B9, fl, e, d, f] := fun b hb => by
    obtain ⟨p, hp, hb⟩ := List.mem_map.mp (show b ∈ [(B9, PySem.W.listOf (List.toArray vs9) c9), (fl, PySem.W.listOf #[] 0), (e, instObj 127 d), (d, envD eD num par f pc pl), (f, oF)].map (·.1) from hb)
    exact hb ▸ (n9 p hp).2
  have th9 : ∀ b ∈ [B9, fl, e, d, f], ∃ o, hq3.get? b = some o := fun b hb => by
    obtain ⟨p, hp, hb⟩ := List.mem_map.mp (show b ∈ [(B9, PySem.W.listOf (List.toArray vs9) c9), (fl, PySem.W.listOf #[] 0), (e, instObj 127 d), (d, envD eD num par f pc pl), (f, oF)].map (·.1) from hb)
    exact ⟨_, hb ▸ (n9 p hp).1⟩
  have b1 : B9 ≠ fl := fun q => Nat.lt_irrefl _ (q ▸ l9.1)
  obtain ⟨A0, eA⟩ : ∃ A0, A0 = [B9, fl, e, d, f] := ⟨_, rfl⟩
  rw [← eA] at offF th9
  have mB : B9 ∈ A0 := eA ▸ .head _
  have mf : fl ∈ A0 := eA ▸ .tail _ (.head _)
  refine each_list (vs := List.toArray vs9) (fun kk F h M => F = A0 ∧ (∀ b ∈ A0, b ≠ fl → ∀ o, hq3.get? b = some o → h.get? b = some o) ∧ M (Str.ofString "hidden") = some (.bool hid) ∧ M (Str.ofString "found") = some (.ref fl) ∧ ∃ us c, h.get? fl = some (PySem.W.listOf (List.toArray us) c) ∧ StrsAre us ((ss9.take kk).filter (fun y => hid || !dotted y))) A0
    (fun kk F h h' M hJ hk => ⟨hJ.1, fun b hb hne o ho => hk b (hJ.1 ▸ hb) o (hJ.2.1 b hb hne o ho), hJ.2.2.1, hJ.2.2.2.1, hJ.2.2.2.2.imp fun us h => h.imp fun c h => ⟨hk fl (hJ.1 ▸ mf) _ h.1, h.2⟩⟩) (fun kk F h M hJ => hJ.1 ▸ offF)
    (fun kk F h M hJ b hb => by
      by_cases q : b = fl
      · obtain ⟨us, c, q5, _⟩ := hJ.2.2.2.2
        exact ⟨_, q ▸ q5⟩
      · obtain ⟨o, ho⟩ := th9 b (hJ.1 ▸ hb)
        exact ⟨o, hJ.2.1 b (hJ.1 ▸ hb) q o ho⟩)
    rfl ⟨_, zB.1, rfl, _, rfl⟩ zB.2.1 zB.2.2 f9 ⟨rfl, fun b hb hne o ho => ho, rfl, rfl, [], 0, zf.1, .nil⟩ ?_ ?_
  · intro kk v F₁ M h2 tk2 I oI ol hv hJ hIF eI eol hIL hIl hI0 Fr₁
    refine hJ.2.2.2.2.elim fun us hJ1 => hJ1.elim fun c hJ2 => (strs_at s1 (by simpa using hv)).elim fun y hy1 => hy1.elim fun t hy2 => ?_
    have hvy := hy2.1
    have hy := hy2.2
    have q5 := hJ2.1
    have q6 := hJ2.2
    have qq := hJ.2.1
    rw [map2 hJ.2.2.1 hJ.2.2.2.1, hvy] at Fr₁
    have hF := hJ.1
    clear hJ1 hJ2 hJ hy1 hy2
    rw [hF] at hIF
    have offI : Off g s.heap.objs.size (I :: A0) := fun b hb => by
      rcases List.mem_cons.mp hb with q | hb
      · exact q ▸ ⟨hIL, hI0⟩
      · exact offF b hb
    obtain ⟨tl, etl⟩ : ∃ tl, tl = rest h2 (I :: A0) [fl] := ⟨_, rfl⟩
    have N9 : News g s.heap.objs.size h2 ((fl, PySem.W.listOf (List.toArray us) c) :: tl) := nc ⟨q5, zf.2⟩ (etl ▸ rest_news offI)
    have htl : ∀ p ∈ tl, p.1 ≠ fl := etl ▸ rest_ne (.head _)
    have hIf : I ≠ fl := fun q => hIF (q ▸ mf)
    have stp : ∀ b, (hid || !dotted y) = b → ((ss9.take (kk + 1)).filter fun y => hid || !dotted y) = ((ss9.take kk).filter fun y => hid || !dotted y) ++ (if b then [y] else []) := fun b hb => by
      rw [List.take_add_one, hy, List.filter_append]
      congr 1
      cases b <;> simp [hb]
    have hsz9 : (List.toArray us).size ≤ sizeLine := by
      rw [List.size_toArray, sizeLine_eq, q6.length]
      have := List.length_filter_le (fun y => hid || !dotted y) (ss9.take kk)
      have h2 := s2.length_eq
      rw [List.length_map] at h2
      rw [List.length_take] at this
      omega
    have kk7 : ∀ {h' : Heap} {X : Obj}, News g s.heap.objs.size h' ((fl, X) :: tl) → ∀ b ∈ I :: A0, b ≠ fl → ∀ o, h2.get? b = some o → h'.get? b = some o := fun n b hb hne o ho => rest_get (A := [fl]) (etl ▸ n) (fun _ h => .tail _ h) b hb (by simpa using hne) o ho
    have gl : ∀ {h' : Heap} {X : Obj}, News g s.heap.objs.size h' ((fl, X) :: tl) → ∀ p, some (B9, ol) = some p → h'.get? p.1 = some p.2 := fun n p hp => by
      rw [← Option.some.inj hp]; exact kk7 n B9 (.tail _ mB) b1 _ eol
    clear f9 n9 zB
    k_steps
    all_goals (try dsimp only)
    all_goals (rename Fr g _ _ _ => f7)
    all_goals (rename News g _ _ _ => n7)
    all_goals first
      | (have e9 := stp true (by simp_all [dotted])
         exact ⟨_, _, _, _, rfl, f7, ⟨rfl, fun b hb hne o ho => kk7 n7 b (.tail _ hb) hne o (qq b hb hne o ho), rfl, rfl, us ++ [.str y t], _, by simpa using (n7 _ (.head _)).1, by rw [e9]; exact strs_snoc q6⟩, hIF, kk7 n7 I (.head _) hIf _ eI, gl n7⟩)
      | (have e9 := stp false (by simp_all [dotted])
         exact ⟨_, _, _, _, rfl, f7, ⟨rfl, fun b hb hne o ho => kk7 n7 b (.tail _ hb) hne o (qq b hb hne o ho), rfl, rfl, us, _, (n7 _ (.head _)).1, by rw [e9, if_neg (by simp), List.append_nil]; exact q6⟩, hIF, kk7 n7 I (.head _) hIf _ eI, gl n7⟩)
  · intro h' tk' m' F' hJ Fr'
    refine hJ.2.2.2.2.elim fun us hJ1 => hJ1.elim fun c hJ2 => ?_
    have q6 := hJ2.2
    have up : ∀ p ∈ [(e, instObj 127 d), (d, envD eD num par f pc pl), (f, oF)], p.1 ≠ fl → h'.get? p.1 = some p.2 ∧ p.1 ≠ s.heap.objs.size ∧ g.get? p.1 = none := fun p hp hne =>
      have hm := n9 p (.tail _ (.tail _ hp))
      ⟨hJ.2.1 p.1 (eA ▸ .tail _ (.tail _ (List.mem_map_of_mem (f := (·.1)) hp))) hne _ hm.1, hm.2⟩
    have N9 : News g s.heap.objs.size h' ((fl, PySem.W.listOf (List.toArray us) c) :: [(e, instObj 127 d), (d, envD eD num par f pc pl), (f, oF)]) := nc ⟨hJ2.1, zf.2⟩ (nc (up (e, _) (.head _) fun q => Nat.lt_irrefl _ (q ▸ lq1.1)) (nc (up (d, _) (.tail _ (.head _)) fun q => Nat.lt_irrefl _ (q ▸ lq1.2.1)) (nc (up (f, _) (.tail _ (.tail _ (.head _))) fun q => Nat.lt_irrefl _ (q ▸ lq1.2.2)) News.nil)))
    rw [map3' hJ.2.2.2.1] at Fr'
    clear f9 n9 zB hJ hJ1 hJ2 up
    dsimp only
    k_steps
    rename Fr g _ _ _ => f7
    rename News g _ _ _ => n7
    rename News h₀ L _ _ => kn7
    have hsz : (List.toArray vs9).size = ss9.length := by rw [List.size_toArray]; exact s1.length
    rw [hsz, List.take_length] at q6
    exact k _ _ _ _ _ ss9 _ (by k_asm) (keep0 HD f7 n7 (fun _ h => .tail _ h)) (kn7 _ (.head _)) q6 s2 s3 rfl
end
end
section
open PySem PySem.W PySem.Calls PyProof.Rows PyProof.V PySem.W.X
set_option linter.unusedVariables false
noncomputable def sle (a b : Str) : Prop := a.cps.toList ≤ b.cps.toList
theorem sle_of {a b : Str} (h : Spec.ltCps b.cps.toList a.cps.toList = false) : sle a b := by
  rw [ltCps_eq] at h
  exact List.not_lt.mp (of_decide_eq_false h)
theorem rising_pw : ∀ (p : Str) (l : List Str), risingS p l = true → (p :: l).Pairwise sle
  | p, [], _ => .cons (fun _ h => nomatch h) .nil
  | p, x :: r, h => by
    have h' : (!Spec.ltCps x.cps.toList p.cps.toList && risingS x r) = true := h
    rw [Bool.and_eq_true] at h'
    have ih := rising_pw x r h'.2
    have px : sle p x := sle_of (by simpa using h'.1)
    refine .cons (fun y hy => ?_) ih
    rcases List.mem_cons.mp hy with rfl | hy
    · exact px
    · exact List.le_trans px (List.rel_of_pairwise_cons ih hy)
theorem sorted_pw {l : List Str} (h : sortedS l = true) : l.Pairwise sle := by
  cases l with
  | nil => exact .nil
  | cons p r => exact rising_pw p r h
theorem sorted_eq {l l' : List Str} (h : sortedS l = true) (h' : sortedS l' = true) (p : l.Perm l') : l = l' :=
  List.Perm.eq_of_pairwise (le := sle) (fun a b _ _ x y => by
    have := List.le_antisymm x y
    cases a; cases b; simp_all [Array.toList_inj]) (sorted_pw h) (sorted_pw h') p
theorem strs_reads {h : Heap} : ∀ {vs : List Value} {ss : List Str}, StrsAre vs ss → ∃ fp, ReadsAll h vs (ss.map PyData.str) fp
  | _, _, .nil => ⟨_, .nil⟩
  | _, _, .cons x t r => let ⟨fp, q⟩ := strs_reads (h := h) r; ⟨_, .cons (Reads.str _ _) q⟩
theorem strs_canLay : ∀ {ss : List Str}, (∀ y ∈ ss, PyData.strOk y = true) → PyData.canLayAll0 (ss.map PyData.str) = true
  | [], _ => rfl
  | y :: ss, x => by
    simp only [List.map_cons, PyData.canLayAll0, PyData.canLay0, Bool.and_eq_true]
    exact ⟨x y (.head _), strs_canLay fun q hq => x q (.tail _ hq)⟩
theorem strs_depth : ∀ (ss : List Str), PyData.depthAll (ss.map PyData.str) = 0
  | [] => rfl
  | y :: ss => by rw [List.map_cons, PyData.depthAll, strs_depth ss]; rfl
theorem ints_reads {h : Heap} : ∀ {vs : List Value} {ns : List Int}, IntsAre vs ns → ∃ fp, ReadsAll h vs (ns.map PyData.int) fp
  | _, _, .nil => ⟨_, .nil⟩
  | _, _, .cons x t r => let ⟨fp, q⟩ := ints_reads (h := h) r; ⟨_, .cons (Reads.int _ _) q⟩
section
variable {prog : Program} {w : World} {A : Around} {E : Value → Shared → Prop} {s : Shared} {Q : Value → Shared → Prop} {a b : Addr} {n n' : Nat} {vs vs' : List Value}
theorem ne_strs {ss : List Str} (ha : s.heap.get? a = some (PySem.W.listOf (List.toArray vs) n)) (hb : s.heap.get? b = some (PySem.W.listOf (List.toArray vs') n')) (x : StrsAre vs ss) (y : StrsAre vs' ss) (ok : ∀ y ∈ ss, PyData.strOk y = true)
    (hu : A.units + 64 < cLine) (h : Q (.bool false) s) : wpAny (model prog w) A (compareOp .NotEq (.ref a) (.ref b)) Q E s := by
  obtain ⟨f1, r1⟩ := strs_reads (h := s.heap) x
  obtain ⟨f2, r2⟩ := strs_reads (h := s.heap) y
  have sh : SeqAt.shaped (.list (ss.map PyData.str)) = true := by
    simp only [SeqAt.shaped, PyData.canLay0, strs_canLay ok, PyData.depth, strs_depth, Bool.true_and]
    rfl
  refine ne_dataH (reads_list_at ha rfl rfl (by simpa using r1)) (reads_list_at hb rfl rfl (by simpa using r2)) sh sh hu ?_
  rw [SeqAt.eqv_refl _ (SeqAt.canLay_of_shaped sh)]
  exact h
theorem ne_ints {ns : List Int} (hl : (PyData.list (ns.map PyData.int)).canLay0 = true) (hd : (PyData.list (ns.map PyData.int)).depth ≤ 64) (ha : s.heap.get? a = some (PySem.W.listOf (List.toArray vs) n)) (hb : s.heap.get? b = some (PySem.W.listOf (List.toArray vs') n')) (x : IntsAre vs ns) (y : IntsAre vs' ns)
    (hu : A.units + 64 < cLine) (h : Q (.bool false) s) : wpAny (model prog w) A (compareOp .NotEq (.ref a) (.ref b)) Q E s := by
  obtain ⟨f1, r1⟩ := ints_reads (h := s.heap) x
  obtain ⟨f2, r2⟩ := ints_reads (h := s.heap) y
  have sh : SeqAt.shaped (.list (ns.map PyData.int)) = true := by
    simp only [SeqAt.shaped, hl, Bool.true_and]
    exact decide_eq_true hd
  refine ne_dataH (reads_list_at ha rfl rfl (by simpa using r1)) (reads_list_at hb rfl rfl (by simpa using r2)) sh sh hu ?_
  rw [SeqAt.eqv_refl _ hl]
  exact h
end
end
section
open PySem PySem.W PySem.Calls PyProof.Rows PyProof.V PySem.W.X
set_option linter.unusedVariables false
noncomputable def nearB (E : Nat → List Ent) (x : Str) : Nat → Option Int
  | 0 => none
  | j + 1 => nearE E j x
theorem nearE_step {E : Nat → List Ent} {x : Str} {j : Nat} (h : look x (E j) = none) : nearE E j x = nearB E x j := by
  cases j with
  | zero => exact nearE_none fun i hi => by rw [Nat.le_zero.mp hi]; exact h
  | succ j => exact nearE_skip (Nat.le_succ j) fun i a b => by rw [Nat.le_antisymm b a]; exact h
noncomputable def dl : Nat → List Int
  | 0 => []
  | j + 1 => (j : Int) :: dl j
theorem dl_len : ∀ j, (dl j).length = j
  | 0 => rfl
  | j + 1 => congrArg Nat.succ (dl_len j)
theorem said_LookG_1 : True := by
  k_with_none
  (k_with "m call builtin:dict.get" => (k_here; (with_reducible show wpAny _ _ (call (Value.builtin "dict.get") [Value.ref _, Value.str _ _]) _ _ _); k_dflt (refine get_frm (by k_tabat) (fun v' b' t' hg' => ?_) (fun hg' => ?_))))
  (k_with "m exec While Compare" => (k_here; k_dflt (refine whl_start 0 ?_)))
  (k_with "m WhlRest" => refine whl_stop ?_)
  (k_with "m call builtin:list.append" => (k_here; (with_reducible show wpAny _ _ (call (Value.builtin _) [Value.ref _, _]) _ _ _); k_dflt (refine' append_K ?k1 ?k2 ?k3 ?_ ?z; (case k1 => k_asm); (case k2 => k_asm); (case k3 => k_upd); (case z => assumption); k_whole); intro h' F' N'))
  (k_with "m k_handed" => with_reducible assumption)
  (k_with "m k_all" => with_reducible assumption)
  (k_with "m k_room" => first | k_dflt exact room_lt (k := 1) hdp rfl | k_dflt exact room_lt (k := 2) hdp rfl | k_dflt exact room_lt (k := 3) hdp rfl | k_dflt exact room_lt (k := 4) hdp rfl | k_dflt exact room_lt (k := 0) hdp rfl | decide | ((try simp only [depth_mark, depth_under_make, depth_under_kw, depth_in1, depth_deeper, depth_caller]); (try dsimp only [ktrTop]); (show (_ : Nat) < 1000); omega))
  (k_with "m k_units" => first | k_dflt exact unit_lt (k := 0) hun rfl | k_dflt exact unit_lt (k := 1) hun rfl | k_dflt exact unit_lt (k := 2) hun rfl | exact Nat.le_of_ble_eq_true rfl | ((try simp only [units_in1, units_deeper, Around.mark_units, units_caller]); (try dsimp only [ktrTop]); (show (_ : Nat) < 9900); omega))
  (k_with "m M enter" => (refine wpAny_call ?_; k_dflt (refine' enter ?k1 ?k2 ?k3 ?k4 ?k5 ?kA ?kF ?kK ?k6 ?k7 ?k8 ?k9 ?kB ?_ ?c2 ?c3 ?c4 ?c5; (case kA => exact rfl); (case kF => exact rfl); (case kK => first | assumption | exact rfl); (case k1 => k_asm); (case k2 => k_asm); (case k3 => k_asm); (case k4 => k_asm); (case k5 => k_asm); (case k6 => k_is); (case k7 => k_is); (case k8 => (show (_ : Nat) < 1000; dsimp only; omega)); (case k9 => exact BindsTo.of_eq rfl); (case c5 => decide); (case kB => exact locs rfl); (case c2 => exact rfl); (case c3 => exact rfl); (case c4 => exact rfl); k_whole)))
  trivial
section
variable {w : World} {mean : ExcName → Option Value} {mg mb : Str → Option Value} {dp un : Nat} {gd : Option (List Code)} {cn : Str} {cs : Scope} {a : Addr} {ccd : Value} {cl : List (Str × Addr)} {outer : List Env} {A₀ : Around} {base h₀ : Heap} {L : Addr} {m : Str → Option Value} {s : Shared} {Q E : Value → Shared → Prop}
 {x : Str} {tx : Tok} {P : Nat → EP} {i : Nat}
set_option maxRecDepth 100000 in
set_option maxHeartbeats 8000000 in
theorem look_all
   (B : Below A₀ base outer h₀) (F : Fr h₀ L s.heap m) (X : (hd.heap_39 w.params).In h₀) (T : Top VW LO mean mg mb h₀) (hk : cs.kind = .function) (hdp : dp ≤ 390) (hun : un ≤ 900)
   (S : AllSt w P s.heap) (O : Off h₀ L (feet P)) (hi : i < 4)
   (k : ∀ h' tk' v, ValIs v (nearE (fun j => (P j).E) i x) → Fr h₀ L h' m → Keep s.heap [] h' → Q v { s with heap := h', toks := tk' })
   : wpAny (model PR w) (ktrTop dp un gd cn cs L a ccd cl outer) (call (.ref 60) [.ref (P i).e, .str x tx]) Q E s := by
  obtain ⟨led, hled⟩ : ∃ led, led = snap s.heap (feet P) := ⟨_, rfl⟩
  have N : News h₀ L s.heap led := hled ▸ news_snap O
  walk_at "M enter"
  intro g h₁ FG F' N' B' X' T' HD
  try dsimp only
  try k_fold
  k_steps
  rename Fr g _ _ _ => f0
  refine whl_ind (fun j h M => M (Str.ofString "env") = some (upV P j) ∧ M (Str.ofString "name") = some (.str x tx) ∧ News g s.heap.objs.size h led ∧ j ≤ 4 ∧ nearE (fun j => (P j).E) i x = nearB (fun j => (P j).E) x j)
    (by passes_own) ?_ (i + 1) _ _ _ f0 ⟨rfl, rfl, N', hi, rfl⟩
  intro j h2 tk2 M F2 hJ ih
  rw [map2e hJ.1 hJ.2.1] at F2
  have N2 := hJ.2.2.1
  have hj := hJ.2.2.2.1
  have hn := hJ.2.2.2.2
  clear f0 N' N hJ
  cases j with
  | zero =>
    dsimp only [upV, nearB] at hn F2
    k_steps
    rename Fr g _ _ _ => f9
    rename News g _ _ _ => n9
    exact k _ _ _ (by rw [hn]; rfl) (by k_asm) (keep0 HD f9 n9 fun _ h => h)
  | succ j =>
    dsimp only [upV, nearB] at hn F2
    refine env_at (S.st j (by omega)) (fun b hb => mem_feet.mpr ⟨j, by omega, hb⟩) hled N2 fun eD o kf N3 ho hf => ?_
    have lo := (S.st j (by omega)).lowf
    have N4 : News g s.heap.objs.size h2 (_ :: _ :: _ :: led) := N3.append N2
    clear N3 N2
    obtain ⟨pv, hpv, hph⟩ : ∃ pv, (P j).par = pv ∧ handedIn pv = true := ⟨_, rfl, by rw [upV_par S hj]; exact upV_handed j⟩
    rw [hpv] at N4
    k_steps
    all_goals (rename Fr g _ _ _ => f9)
    all_goals (rename News g _ _ _ => n9)
    · exact k _ _ _ (by rw [hn, nearE_hit (by assumption)]; exact ⟨_, rfl⟩) (by k_asm) (keep0 HD f9 n9 fun _ h => .tail _ (.tail _ (.tail _ h)))
    · refine ih j _ _ _ (Nat.lt_succ_self _) f9 ⟨?_, rfl, fun p hp => n9 p (.tail _ (.tail _ (.tail _ hp))), by omega, ?_⟩
      · exact congrArg some (hpv.symm.trans (upV_par S hj))
      · rw [hn]
        rename look x _ = none => q9
        exact nearE_step (E := fun j => (P j).E) q9
set_option maxRecDepth 100000 in
set_option maxHeartbeats 8000000 in
theorem anc_all
   (B : Below A₀ base outer h₀) (F : Fr h₀ L s.heap m) (X : (hd.heap_39 w.params).In h₀) (T : Top VW LO mean mg mb h₀) (hk : cs.kind = .function) (hdp : dp ≤ 390) (hun : un ≤ 900)
   (S : AllSt w P s.heap) (O : Off h₀ L (feet P)) (hi : i < 4)
   (k : ∀ h' tk' D vs c, Fr h₀ L h' m → Keep s.heap [] h' → (h'.get? D = some (PySem.W.listOf (List.toArray vs) c) ∧ D ≠ L ∧ h₀.get? D = none) → IntsAre vs (dl (i + 1)) → Q (.ref D) { s with heap := h', toks := tk' })
   : wpAny (model PR w) (ktrTop dp un gd cn cs L a ccd cl outer) (call (.ref 67) [.ref (P i).e]) Q E s := by
  obtain ⟨led, hled⟩ : ∃ led, led = snap s.heap (feet P) := ⟨_, rfl⟩
  have N : News h₀ L s.heap led := hled ▸ news_snap O
  walk_at "M enter"
  intro g h₁ FG F' N' B' X' T' HD
  try dsimp only
  try k_fold
  k_steps
  rename_i D _ lD _ f1 n1
  have hD := n1 _ (.head _)
  refine whl_ind (fun j h M => M (Str.ofString "env") = some (upV P j) ∧ M (Str.ofString "numbers") = some (.ref D) ∧ j ≤ 4 ∧ ∃ us c zs, News g s.heap.objs.size h ((D, PySem.W.listOf (List.toArray us) c) :: led) ∧ IntsAre us zs ∧ zs ++ dl j = dl (i + 1))
    (by passes_own) ?_ (i + 1) _ _ _ f1 ⟨rfl, rfl, hi, [], _, [], n1, .nil, rfl⟩
  intro j h2 tk2 M F2 hJ ih
  refine hJ.2.2.2.elim fun us hJ1 => hJ1.elim fun c hJ2 => hJ2.elim fun zs hJ3 => ?_
  rw [map2e hJ.1 hJ.2.1] at F2
  have N2 := hJ3.1
  have hI := hJ3.2.1
  have hn := hJ3.2.2
  have hj := hJ.2.2.1
  clear n1 f1 N hJ hJ1 hJ2 hJ3
  cases j with
  | zero =>
    dsimp only [upV] at F2
    k_steps
    rename Fr g _ _ _ => f9
    rename News g _ _ _ => n9
    rw [dl, List.append_nil] at hn
    rename News h₀ L _ _ => k9
    exact k _ _ _ _ _ (by k_asm) (keep0 HD f9 n9 fun _ h => .tail _ h) (k9 _ (.head _)) (hn ▸ hI)
  | succ j =>
    dsimp only [upV] at F2
    refine env_at (S.st j (by omega)) (fun b hb => mem_feet.mpr ⟨j, by omega, hb⟩) hled (fun p hp => N2 p (.tail _ hp)) fun eD o kf N3 ho hf => ?_
    have N4 : News g s.heap.objs.size h2 ((D, _) :: _ :: _ :: _ :: led) := nc (N2 _ (.head _)) (N3.append fun p hp => N2 p (.tail _ hp))
    obtain ⟨pv, hpv, hph⟩ : ∃ pv, (P j).par = pv ∧ handedIn pv = true := ⟨_, rfl, by rw [upV_par S hj]; exact upV_handed j⟩
    rw [hpv, S.num j (by omega)] at N4
    clear N3 N2
    have hsz : (List.toArray us).size ≤ sizeLine := by
      have e := congrArg List.length hn
      rw [List.length_append, dl_len, dl_len] at e
      rw [List.size_toArray, sizeLine_eq, hI.length]
      omega
    have b0 : ∀ p ∈ led, p.1 ≠ D := fun p hp q => Nat.lt_irrefl _ (q ▸ lD p hp)
    have b9 : ∀ b ∈ (P j).foot, b ≠ D := fun b hb => by
      obtain ⟨o, ho⟩ := (S.st j (by omega)).there b hb
      exact b0 (b, o) (hled ▸ mem_snap.mpr ⟨mem_feet.mpr ⟨j, by omega, hb⟩, ho⟩)
    have b1 := b9 _ (.head _)
    have b2 := b9 _ (.tail _ (.head _))
    have b3 := b9 _ (.tail _ (.tail _ (.head _)))
    clear b9
    k_steps
    all_goals (rename Fr g _ _ _ => f9)
    all_goals (rename News g _ _ _ => n9)
    · refine ih j _ _ _ (Nat.lt_succ_self _) f9 ⟨congrArg some (hpv.symm.trans (upV_par S hj)), rfl, by omega, us ++ [.int j _], _, zs ++ [(j : Int)], nc (by simpa using n9 _ (.head _)) fun p hp => n9 p (.tail _ (.tail _ (.tail _ (.tail _ hp)))), hI.append (.cons _ _ .nil), ?_⟩
      rw [List.append_assoc]
      exact hn
end
end
section
open PySem PySem.W PySem.Calls PyProof.Rows PyProof.V PySem.W.X
set_option linter.unusedVariables false
section
variable {w : World} {mean : ExcName → Option Value} {mg mb : Str → Option Value} {dp un : Nat} {gd : Option (List Code)} {cn : Str} {cs : Scope} {a : Addr} {ccd : Value} {A₀ : Around} {base h₀ : Heap} {L wl rw el rs : Addr} {ex : List (Addr × Obj)} {m : Str → Option Value} {s : Shared} {Q E : Value → Shared → Prop}
  {x : Str} {tx : Tok} {tp : Tok} {R : Nat → RP} {P : Nat → EP} {xs : List Int} {sp : Int} {i n : Nat} {hid : Bool}
theorem fl_look
   (B : Below A₀ base [] h₀) (F : Fr h₀ L s.heap m) (X : (hd.heap_39 w.params).In h₀) (T : Top VW LO mean mg mb h₀) (hk : cs.kind = .function) (hdp : dp ≤ 310) (hun : un ≤ 20)
   (S : St4 w h₀ L wl rw el rs ex xs P R sp s.heap) (hi : i < 4)
   (k : ∀ h' tk' v, ValIs v (nearE (fun j => (P j).E) i x) → Fr h₀ L h' m → Keep s.heap [] h' → Q v { s with heap := h', toks := tk' })
   : wpAny (model PR w) (ktrTop dp un gd cn cs L a ccd [] []) (call (.ref 60) [.ref (P i).e, .str x tx]) Q E s := by
  exact look_all B F X T hk (by omega) (by omega) S.env (fun b hb => S.off b (f4_P hb)) hi k
theorem fl_here
   (B : Below A₀ base [] h₀) (F : Fr h₀ L s.heap m) (X : (hd.heap_39 w.params).In h₀) (T : Top VW LO mean mg mb h₀) (hk : cs.kind = .function) (hdp : dp ≤ 310) (hun : un ≤ 20)
   (S : St4 w h₀ L wl rw el rs ex xs P R sp s.heap) (hi : i < 4)
   (k : ∀ h' tk' v, ValIs v ((look x (P i).E).map (·.1)) → Fr h₀ L h' m → Keep s.heap [] h' → Q v { s with heap := h', toks := tk' })
   : wpAny (model PR w) (ktrTop dp un gd cn cs L a ccd [] []) (call (.ref 53) [.ref (P i).e, .str x tx]) Q E s := by
  obtain ⟨eD, c⟩ := (S.env.st i hi).idict
  obtain ⟨o, kf, a1, b1, f1⟩ := (S.env.st i hi).frame
  have z : ∀ b ∈ (P i).foot, b ≠ L ∧ h₀.get? b = none := fun b hb => S.off b (f4_P (mem_feet.mpr ⟨i, hi, hb⟩))
  exact here_1 B F X T hk (by omega) (by omega) (nc ⟨(S.env.st i hi).inst, z _ (.head _)⟩ (nc ⟨c, z _ (.tail _ (.head _))⟩ (nc ⟨a1, z _ (.tail _ (.tail _ (.head _)))⟩ News.nil))) b1 f1 (S.env.st i hi).lowf
    (fun v b hv h' tk' t F' K' => k h' tk' _ (by rw [hv]; exact ⟨t, rfl⟩) F' K') (fun hv h' tk' F' K' => k h' tk' _ (by rw [hv]; rfl) F' K')
theorem fl_near
   (B : Below A₀ base [] h₀) (F : Fr h₀ L s.heap m) (X : (hd.heap_39 w.params).In h₀) (T : Top VW LO mean mg mb h₀) (hk : cs.kind = .function) (hdp : dp ≤ 310) (hun : un ≤ 20)
   (S : St4 w h₀ L wl rw el rs ex xs P R sp s.heap) (hi : i < 4)
   (k : ∀ h' tk' v, ValIs v (nearE (fun j => (R j).E) i x) → Fr h₀ L h' m → Keep s.heap [] h' → Q v { s with heap := h', toks := tk' })
   : wpAny (model PR w) (ktrTop dp un gd cn cs L a ccd [] []) (call (.ref 183) [.ref rs, .int (i : Int) tp, .str x tx]) Q E s := by
  obtain ⟨n, e⟩ := S.rss
  exact near_spec B F X T hk (by omega) (by omega) S.rows e hi k
theorem fl_names
   (B : Below A₀ base [] h₀) (F : Fr h₀ L s.heap m) (X : (hd.heap_39 w.params).In h₀) (T : Top VW LO mean mg mb h₀) (hk : cs.kind = .function) (hdp : dp ≤ 310) (hun : un ≤ 20)
   (S : St4 w h₀ L wl rw el rs ex xs P R sp s.heap) (hi : i < 4) (hlen : (P i).E.length ≤ 60)
   (k : ∀ h' tk' D vs ss ss0 c, Fr h₀ L h' m → Keep s.heap [] h' → (h'.get? D = some (PySem.W.listOf (List.toArray vs) c) ∧ D ≠ L ∧ h₀.get? D = none) → StrsAre vs ss → ss0.Perm ((P i).E.map (·.1)) → sortedS ss0 = true → ss = ss0.filter (fun y => hid || !dotted y) → Q (.ref D) { s with heap := h', toks := tk' })
   : wpAny (model PR w) (ktrTop dp un gd cn cs L a ccd [] []) (call (.ref 109) [.ref (P i).e, .bool hid]) Q E s := by
  obtain ⟨eD, c⟩ := (S.env.st i hi).idict
  obtain ⟨o, kf, a1, b1, f1⟩ := (S.env.st i hi).frame
  have z : ∀ b ∈ (P i).foot, b ≠ L ∧ h₀.get? b = none := fun b hb => S.off b (f4_P (mem_feet.mpr ⟨i, hi, hb⟩))
  exact names_spec B F X T hk (by omega) (by omega) (nc ⟨(S.env.st i hi).inst, z _ (.head _)⟩ (nc ⟨c, z _ (.tail _ (.head _))⟩ (nc ⟨a1, z _ (.tail _ (.tail _ (.head _)))⟩ News.nil))) b1 f1 (S.env.st i hi).lowf hlen k
noncomputable def downs (i : Nat) : List Int := (List.range (i + 1)).map fun (j : Nat) => (i : Int) - (j : Int)
theorem fl_anc
   (B : Below A₀ base [] h₀) (F : Fr h₀ L s.heap m) (X : (hd.heap_39 w.params).In h₀) (T : Top VW LO mean mg mb h₀) (hk : cs.kind = .function) (hdp : dp ≤ 310) (hun : un ≤ 20)
   (S : St4 w h₀ L wl rw el rs ex xs P R sp s.heap) (hi : i < 4)
   (k : ∀ h' tk' D vs c, Fr h₀ L h' m → Keep s.heap [] h' → (h'.get? D = some (PySem.W.listOf (List.toArray vs) c) ∧ D ≠ L ∧ h₀.get? D = none) → IntsAre vs (downs i) → Q (.ref D) { s with heap := h', toks := tk' })
   : wpAny (model PR w) (ktrTop dp un gd cn cs L a ccd [] []) (call (.ref 67) [.ref (P i).e]) Q E s := by
  refine anc_all B F X T hk (by omega) (by omega) S.env (fun b hb => S.off b (f4_P hb)) hi fun h' tk' D vs c F' K' e hI => k h' tk' D vs c F' K' e ?_
  have e9 : dl (i + 1) = downs i := by
    rcases lt4 i hi with rfl | rfl | rfl | rfl <;> rfl
  exact e9 ▸ hI
end
end
section
open PySem PySem.W PySem.Calls PyProof.Rows PyProof.V PySem.W.X
set_option linter.unusedVariables false
noncomputable def Nm4 (x : Str) : Prop := x = Str.ofString "a" ∨ x = Str.ofString "b" ∨ x = Str.ofString ".h" ∨ x = Str.ofString "z"
theorem Nm4.ok {x : Str} (h : Nm4 x) : PyData.strOk x = true := by rcases h with rfl | rfl | rfl | rfl <;> decide +kernel
theorem Nm4.dot {x : Str} (h : Nm4 x) : (!dotted x) = (x != Str.ofString ".h") := by rcases h with rfl | rfl | rfl | rfl <;> decide +kernel
theorem Good.nm4 {P : Nat → EP} {R : Nat → RP} {n i : Nat} (G : Good P R n) (hi : i < 4) : (∀ y ∈ (P i).E.map (·.1), Nm4 y) ∧ (P i).E.length ≤ 60 := by
  rcases Nat.eq_zero_or_pos i with rfl | h
  · rw [G.base]
    refine ⟨fun y hy => ?_, by decide⟩
    simp only [List.map_cons, List.map_nil, List.mem_cons, List.not_mem_nil, or_false] at hy
    rcases hy with rfl | rfl
    · exact .inr (.inl rfl)
    · exact .inr (.inr (.inr rfl))
  · have g := G.nm i h hi
    refine ⟨fun y hy => ?_, Nat.le_trans g.len (by decide)⟩
    obtain ⟨p, hp, rfl⟩ := List.mem_map.mp hy
    rcases g.nm p hp with e | e | e
    · exact .inl e
    · exact .inr (.inl e)
    · exact .inr (.inr (.inl e))
section
variable {prog : Program} {w : World} {A : Around} {E : Value → Shared → Prop} {s : Shared} {h₀ : Heap} {L : Addr} {m : Str → Option Value} {env : Env} {news led : List (Addr × Obj)} {Q : Value → Shared → Prop}
theorem list_down {r : Addr} {i : Nat} {t u v : Tok} (hh : A.handled = none) (F : Fr h₀ L s.heap m) (N : News h₀ L s.heap news) (hr : IsRange s.heap r (i : Int) (-1) (-1) t u v) (hi : i < 4)
    (h : ∀ D us c h' tk, Fr h₀ L h' m → News h₀ L h' ((D, PySem.W.listOf (List.toArray us) c) :: news) → IntsAre us (downs i) → Q (.ref D) { s with heap := h', toks := tk }) :
    wpAny (model prog w) A (call (.type "list") [.ref r]) Q E s := by
  have hn : Builtin.Range.rangeSize (i : Int) (-1) (-1) = ((i + 1 : Nat) : Int) := by rw [rangeSize_downNat]; congr 1
  refine call_list_range hh hr (small_down (by omega) (by omega) (by decide) (by decide)) hn (by omega) fun h' tk acc c hk hD hI => ?_
  refine h s.heap.objs.size acc.toList c h' tk (F.keeps hk) (nc ⟨by rw [hD], fun e => Nat.lt_irrefl _ (e ▸ F.ns.lt), next_is_new F⟩ fun p hp => ⟨hk _ _ (N p hp).1, (N p hp).2⟩) ?_
  have hl : acc.toList.length = i + 1 := by rw [Array.length_toList]; exact hI.1
  have get : ∀ (j : Nat) (v : Value), acc.toList[j]? = some v → ∃ t : Tok, v = Value.int ((i : Int) + (j : Int) * (-1)) t := fun j v e => hI.2 j v (by rw [← Array.getElem?_toList]; exact e)
  unfold downs
  have gen : ∀ (l : List Value) (k n : Nat), l.length = n → (∀ (j : Nat) (v : Value), l[j]? = some v → ∃ t : Tok, v = Value.int ((i : Int) - ((k + j : Nat) : Int)) t) → IntsAre l ((List.range' k n).map fun (j : Nat) => (i : Int) - (j : Int)) := by
    intro l
    induction l with
    | nil => intro k n hn _; cases n with | zero => exact .nil | succ n => simp at hn
    | cons v l ih =>
      intro k n hn hg
      cases n with
      | zero => simp at hn
      | succ n =>
        obtain ⟨t, rfl⟩ := hg 0 v rfl
        rw [List.range'_succ, List.map_cons]
        exact .cons _ t (ih (k + 1) n (by simpa using hn) fun j v e => by
          obtain ⟨t, q⟩ := hg (j + 1) v (by simpa using e)
          exact ⟨t, by rw [q]; congr 2; omega⟩)
  have := gen acc.toList 0 (i + 1) hl fun j v e => by
    obtain ⟨t, q⟩ := get j v e
    exact ⟨t, by rw [q]; congr 1⟩
  rw [List.range_eq_range']
  exact this
theorem downs_ok {i : Nat} (hi : i < 4) : (PyData.list ((downs i).map PyData.int)).canLay0 = true ∧ (PyData.list ((downs i).map PyData.int)).depth ≤ 64 := by
  match i, hi with
  | 0, _ => exact ⟨by decide +kernel, by decide +kernel⟩
  | 1, _ => exact ⟨by decide +kernel, by decide +kernel⟩
  | 2, _ => exact ⟨by decide +kernel, by decide +kernel⟩
  | 3, _ => exact ⟨by decide +kernel, by decide +kernel⟩
theorem names_turns {elt : Expr} {y : Str} {scope : Scope} {cl : List (Str × Addr)} {S : List (Addr × Obj) → Prop} {Fin : List Value → List (Addr × Obj) → Prop} {its : Array Value} (hS : S news)
    {D₀ : List (Addr × Ent)} (B : ∀ p ∈ D₀, ∃ t u n, (p.1, PySem.W.listOf #[.str p.2.1 t, .int p.2.2.1 u, .bool p.2.2.2] n) ∈ news)
    (he : ∀ p ∈ D₀, ∀ I oI C oC D m₂ h tk ys (E' : Value → Shared → Prop) (Q' : Value → Shared → Prop) t u, LCg.NsObj oC m₂ → m₂ y = some (.ref p.1) → Fr h₀ L h m → News h₀ L h ((I, oI) :: (C, oC) :: (D, LCg.lst ys) :: news) → h.IsList p.1 #[.str p.2.1 t, .int p.2.2.1 u, .bool p.2.2.2] →
      (∀ tk', Q' (.str p.2.1 t) { s with heap := h, toks := tk' }) → wpAny (model prog w) A (eval elt (compEnvC scope cl C env)) Q' E' { s with heap := h, toks := tk }) :
    ∀ (D : List (Addr × Ent)) (i : Nat) (ys : List Value) (ss : List Str), (∀ p ∈ D, p ∈ D₀) → (∀ j p, D[j]? = some p → its[i + j]? = some (.ref p.1)) → StrsAre ys ss → (∀ ys, StrsAre ys (ss ++ D.map (·.2.1)) → Fin ys news) →
      LCg.CompRest prog w A h₀ L m env elt y scope cl s S (fun i v => its[i]? = some v) Fin D.length i ys news
  | [], i, ys, ss, _, _, hy, hf => LCg.CompRest.zero (hf ys (by simpa using hy))
  | p :: D, i, ys, ss, hm, hi, hy, hf => by
    refine LCg.CompRest.succ fun v I oI C oC Dl m₂ h tk E' hv hC hx F N off ne => ?_
    have h0 := hi 0 p rfl
    rw [Nat.add_zero] at h0
    have hv' : v = .ref p.1 := Option.some.inj (hv.symm.trans h0)
    subst hv'
    have hp := hm p (.head _)
    obtain ⟨t, u, n, e⟩ := B p hp
    refine he p hp I oI C oC Dl m₂ h tk ys E' _ t u hC hx F N ⟨_, (N _ (.tail _ (.tail _ (.tail _ e)))).1, rfl, n, rfl⟩ fun tk'' => ?_
    refine LCg.CompEnd.intro F N news (fun _ z => z) off hS (names_turns (Fin := Fin) hS B he D (i + 1) _ (ss ++ [p.2.1]) (fun q hq => hm q (.tail _ hq)) (fun j q hq => by
      have := hi (j + 1) q (by simpa using hq)
      rwa [Nat.add_assoc, Nat.add_comm 1 j]) (strs_snoc hy) fun ys h => hf ys (by simpa using h))
theorem comp_names {elt : Expr} {y : Str} {scope : Scope} {cl : List (Str × Addr)} {Fin : Shared → List Value → List (Addr × Obj) → Prop} {s₁ : Shared} {h1 : Heap} {wl rw el rs : Addr} {ex : List (Addr × Obj)} {xs : List Int} {P : Nat → EP} {R : Nat → RP} {sp : Int} {i : Nat}
    (hh : A.handled = none) (F : Fr h₀ L s₁.heap m) (N : News h₀ L s₁.heap led) (S : St4 w h₀ L wl rw el rs ex xs P R sp h1) (hsub : ∀ p ∈ snap h1 (foot4 wl rw el rs ex P R), p ∈ led) (hi : i < 4)
    (he : ∀ g', ∀ p ∈ (R i).D, ∀ I oI C oC D m₂ h tk ys (E' : Value → Shared → Prop) (Q' : Value → Shared → Prop) t u, LCg.NsObj oC m₂ → m₂ y = some (.ref p.1) → Fr h₀ L h m → News h₀ L h ((I, oI) :: (C, oC) :: (D, LCg.lst ys) :: led) → h.IsList p.1 #[.str p.2.1 t, .int p.2.2.1 u, .bool p.2.2.2] →
      (∀ tk', Q' (.str p.2.1 t) { ({ s₁ with heap := g' } : Shared) with heap := h, toks := tk' }) → wpAny (model prog w) A (eval elt (compEnvC scope cl C env)) Q' E' { ({ s₁ with heap := g' } : Shared) with heap := h, toks := tk })
    (fin : ∀ g' ys, StrsAre ys ((R i).E.map (·.1)) → Fin { s₁ with heap := g' } ys led) : LCg.CompSrc prog w A h₀ L m env elt y scope cl Fin (.ref (R i).l) s₁ := by
  have hR : ∀ b ∈ (R i).foot, b ∈ foot4 wl rw el rs ex P R := fun b hb => f4_R (mem_rfeet.mpr ⟨i, hi, hb⟩)
  obtain ⟨n, e⟩ := (S.rows.st i hi).lst
  have hm : ((R i).l, PySem.W.listOf (refs (R i).D).toArray n) ∈ led := hsub _ (mem_snap.mpr ⟨hR _ (.tail _ (.head _)), e⟩)
  have sz : (refs (R i).D).toArray.size = (R i).D.length := by simp [refs]
  refine LCg.CompSrc.ledger hh F N hm (by rw [sz, sizeLine_eq]; have := S.rows.short i hi; omega) fun g' => ?_
  rw [sz]
  exact names_turns (.inr ⟨_, hm, rfl, _, rfl⟩) (fun p hp => by
    obtain ⟨t, u, n, e⟩ := (S.rows.st i hi).ents p hp
    exact ⟨t, u, n, hsub _ (mem_snap.mpr ⟨hR p.1 (.tail _ (.tail _ (List.mem_map_of_mem hp))), e⟩)⟩) (he g') (R i).D 0 [] [] (fun _ h => h) refs_at .nil fun ys h => fin g' ys (by unfold RP.E; rw [List.map_map]; rw [List.nil_append] at h; exact h)
theorem strs_turns {ct elt : Expr} {y : Str} {scope : Scope} {cl : List (Str × Addr)} {S : List (Addr × Obj) → Prop} {Fin : List Value → List (Addr × Obj) → Prop} {its : Array Value} (test : Str → Bool) (hS : S news)
    (ht : ∀ (z : Str) (t : Tok), ∀ I oI C oC D m₂ h tk ys (E' : Value → Shared → Prop) (Q' : Bool → Shared → Prop), LCg.NsObj oC m₂ → m₂ y = some (.str z t) → Fr h₀ L h m → News h₀ L h ((I, oI) :: (C, oC) :: (D, LCg.lst ys) :: news) →
      (∀ tk', Q' (test z) { s with heap := h, toks := tk' }) → wpAny (model prog w) A (isTrue ct (compEnvC scope cl C env) (eval ct (compEnvC scope cl C env))) Q' E' { s with heap := h, toks := tk })
    (he : ∀ (z : Str) (t : Tok), ∀ I oI C oC D m₂ h tk ys (E' : Value → Shared → Prop) (Q' : Value → Shared → Prop), LCg.NsObj oC m₂ → m₂ y = some (.str z t) → Fr h₀ L h m → News h₀ L h ((I, oI) :: (C, oC) :: (D, LCg.lst ys) :: news) →
      (∀ tk', Q' (.str z t) { s with heap := h, toks := tk' }) → wpAny (model prog w) A (eval elt (compEnvC scope cl C env)) Q' E' { s with heap := h, toks := tk }) :
    ∀ (vs : List Value) (zs : List Str) (i : Nat) (ys : List Value) (ss : List Str), StrsAre vs zs → (∀ (j : Nat) (v : Value), vs[j]? = some v → its[i + j]? = some v) → StrsAre ys ss → (∀ ys, StrsAre ys (ss ++ zs.filter test) → Fin ys news) →
      LCt.CompRestT prog w A h₀ L m env ct elt y scope cl s S (fun i v => its[i]? = some v) Fin vs.length i ys news
  | _, _, i, ys, ss, .nil, _, hy, hf => LCt.CompRestT.zero (hf ys (by simpa using hy))
  | _, _, i, ys, ss, .cons (vs := vs) (ys := zs) z t r, hi, hy, hf => by
    refine LCt.CompRestT.succ fun v I oI C oC Dl m₂ h tk E' hv hC hx F N off ne => ?_
    have h0 := hi 0 _ rfl
    rw [Nat.add_zero] at h0
    have hv' : v = .str z t := Option.some.inj (hv.symm.trans h0)
    subst hv'
    have nx : ∀ (j : Nat) (v : Value), vs[j]? = some v → its[i + 1 + j]? = some v := fun j v hq => by
      have := hi (j + 1) v (by simpa using hq)
      rwa [Nat.add_assoc, Nat.add_comm 1 j]
    refine ht z t I oI C oC Dl m₂ h tk ys E' _ hC hx F N fun tk' => ?_
    cases q : test z with
    | true =>
      rw [if_pos rfl]
      refine he z t I oI C oC Dl m₂ h tk' ys E' _ hC hx F N fun tk'' => ?_
      exact LCg.CompEnd.intro F N news (fun _ z => z) off hS (strs_turns (Fin := Fin) test hS ht he vs zs (i + 1) _ (ss ++ [z]) r nx (strs_snoc hy) fun ys h => hf ys (by rw [List.filter_cons_of_pos q]; simpa using h))
    | false =>
      rw [if_neg (by simp)]
      exact LCg.CompEnd.intro F N news (fun _ z => z) off hS (strs_turns (Fin := Fin) test hS ht he vs zs (i + 1) ys ss r nx hy fun ys h => hf ys (by rw [List.filter_cons_of_neg (by simp [q])]; exact h))
theorem comp_strs {ct elt : Expr} {y : Str} {scope : Scope} {cl : List (Str × Addr)} {Fin : Shared → List Value → List (Addr × Obj) → Prop} {s₁ : Shared} {ax : Addr} {vs : List Value} {zs : List Str} {k : Nat} (test : Str → Bool)
    (hh : A.handled = none) (F : Fr h₀ L s₁.heap m) (N : News h₀ L s₁.heap led) (hm : (ax, PySem.W.listOf (List.toArray vs) k) ∈ led) (hz : StrsAre vs zs) (hl : zs.length ≤ 100)
    (ht : ∀ g', ∀ (z : Str) (t : Tok), ∀ I oI C oC D m₂ h tk ys (E' : Value → Shared → Prop) (Q' : Bool → Shared → Prop), LCg.NsObj oC m₂ → m₂ y = some (.str z t) → Fr h₀ L h m → News h₀ L h ((I, oI) :: (C, oC) :: (D, LCg.lst ys) :: led) →
      (∀ tk', Q' (test z) { ({ s₁ with heap := g' } : Shared) with heap := h, toks := tk' }) → wpAny (model prog w) A (isTrue ct (compEnvC scope cl C env) (eval ct (compEnvC scope cl C env))) Q' E' { ({ s₁ with heap := g' } : Shared) with heap := h, toks := tk })
    (he : ∀ g', ∀ (z : Str) (t : Tok), ∀ I oI C oC D m₂ h tk ys (E' : Value → Shared → Prop) (Q' : Value → Shared → Prop), LCg.NsObj oC m₂ → m₂ y = some (.str z t) → Fr h₀ L h m → News h₀ L h ((I, oI) :: (C, oC) :: (D, LCg.lst ys) :: led) →
      (∀ tk', Q' (.str z t) { ({ s₁ with heap := g' } : Shared) with heap := h, toks := tk' }) → wpAny (model prog w) A (eval elt (compEnvC scope cl C env)) Q' E' { ({ s₁ with heap := g' } : Shared) with heap := h, toks := tk })
    (fin : ∀ g' ys, StrsAre ys (zs.filter test) → Fin { s₁ with heap := g' } ys led) : LCt.CompSrcT prog w A h₀ L m env ct elt y scope cl Fin (.ref ax) s₁ := by
  have sz : (List.toArray vs).size = vs.length := by simp
  have hlen := hz.length
  refine LCt.CompSrcT.ledger hh F N hm (by rw [sz, sizeLine_eq]; omega) fun g' => ?_
  rw [sz]
  exact strs_turns test (.inr ⟨_, hm, rfl, _, rfl⟩) (ht g') (he g') vs zs 0 [] [] hz (fun j v h => by simpa using h) .nil fun ys h => fin g' ys (by simpa using h)
end
section
variable {w : World} {mean : ExcName → Option Value} {mg mb : Str → Option Value} {dp un : Nat} {gd : Option (List Code)} {cn : Str} {cs : Scope} {a : Addr} {ccd : Value} {A₀ : Around} {base h₀ : Heap} {L wl rw el rs : Addr} {ex : List (Addr × Obj)} {m : Str → Option Value} {s : Shared} {Q E : Value → Shared → Prop}
  {R : Nat → RP} {P : Nat → EP} {xs : List Int} {sp : Int} {i n : Nat} {hs : List Str}
theorem fl_names_t
   (B : Below A₀ base [] h₀) (F : Fr h₀ L s.heap m) (X : (hd.heap_39 w.params).In h₀) (T : Top VW LO mean mg mb h₀) (hk : cs.kind = .function) (hdp : dp ≤ 310) (hun : un ≤ 20)
   (S : St4 w h₀ L wl rw el rs ex xs P R sp s.heap) (G : Good P R n) (hi : i < 4) (hp : hs.Perm ((P i).E.map (·.1))) (hst : sortedS hs = true)
   (k : ∀ h' tk' D vs c, Fr h₀ L h' m → Keep s.heap [] h' → (h'.get? D = some (PySem.W.listOf (List.toArray vs) c) ∧ D ≠ L ∧ h₀.get? D = none) → StrsAre vs hs → Q (.ref D) { s with heap := h', toks := tk' })
   : wpAny (model PR w) (ktrTop dp un gd cn cs L a ccd [] []) (call (.ref 109) [.ref (P i).e, .bool true]) Q E s :=
  fl_names B F X T hk hdp hun S hi (G.nm4 hi).2 fun h' tk' D vs ss ss0 c F' K' e x p q eq => k h' tk' D vs c F' K' e (by
    have e1 : ss = ss0 := by rw [eq]; simp
    rw [sorted_eq hst q (hp.trans p.symm), ← e1]; exact x)
theorem fl_names_f
   (B : Below A₀ base [] h₀) (F : Fr h₀ L s.heap m) (X : (hd.heap_39 w.params).In h₀) (T : Top VW LO mean mg mb h₀) (hk : cs.kind = .function) (hdp : dp ≤ 310) (hun : un ≤ 20)
   (S : St4 w h₀ L wl rw el rs ex xs P R sp s.heap) (G : Good P R n) (hi : i < 4) (hp : hs.Perm ((P i).E.map (·.1))) (hst : sortedS hs = true)
   (k : ∀ h' tk' D vs c, Fr h₀ L h' m → Keep s.heap [] h' → (h'.get? D = some (PySem.W.listOf (List.toArray vs) c) ∧ D ≠ L ∧ h₀.get? D = none) → StrsAre vs (hs.filter fun y => y != Str.ofString ".h") → Q (.ref D) { s with heap := h', toks := tk' })
   : wpAny (model PR w) (ktrTop dp un gd cn cs L a ccd [] []) (call (.ref 109) [.ref (P i).e, .bool false]) Q E s :=
  fl_names B F X T hk hdp hun S hi (G.nm4 hi).2 fun h' tk' D vs ss ss0 c F' K' e x p q eq => k h' tk' D vs c F' K' e (by
    have e0 := sorted_eq hst q (hp.trans p.symm)
    have e1 : ss = hs.filter fun y => y != Str.ofString ".h" := by
      rw [eq, ← e0]
      refine List.filter_congr fun y hy => ?_
      have := ((G.nm4 hi).1 y (hp.mem_iff.mp hy)).dot
      simpa using this
    rw [← e1]; exact x)
end
end
section
open PySem PySem.W PySem.Calls PyProof.Rows PyProof.V PySem.W.X
set_option linter.unusedVariables false
theorem said_FinB_1 : True := by
  k_with_none
  (k_with "m binaryOp Add str str" => (k_here; (with_reducible show wpAny _ _ (binaryOp Operator.Add (Value.str _ _) (Value.str _ _)) _ _ _); (refine' PyProof.Rows.add_str ?hh ?hsz; (case hsz => (have e1 := litA; have e2 := litB; have e3 := sz_line; (try rw [StrLaws.length_append]); omega)); intro t9 k9)))
  (k_with "m k_room" => first | k_dflt exact room_lt (k := 1) hdp rfl | k_dflt exact room_lt (k := 2) hdp rfl | k_dflt exact room_lt (k := 3) hdp rfl | k_dflt exact room_lt (k := 4) hdp rfl | k_dflt exact room_lt (k := 0) hdp rfl | decide | ((try simp only [depth_mark, depth_under_make, depth_under_kw, depth_in1, depth_deeper, depth_caller]); (try dsimp only [ktrTop]); (show (_ : Nat) < 1000); omega))
  (k_with "m k_units" => first | k_dflt exact unit_lt (k := 0) hun rfl | k_dflt exact unit_lt (k := 1) hun rfl | k_dflt exact unit_lt (k := 2) hun rfl | exact Nat.le_of_ble_eq_true rfl | ((try simp only [units_in1, units_deeper, Around.mark_units, units_caller]); (try dsimp only [ktrTop]); (show (_ : Nat) < 9900); omega))
  (k_with "m exec Raise some none" => (k_here; k_dflt (refine' raise_own ?hh ?_; (case hh => exact rfl))))
  (k_with "m call ref" => (k_here; (with_reducible show wpAny _ _ (call (Value.ref 44) [Value.str _ _]) _ _ _); (rename Fr _ _ _ _ => mF); k_dflt ((refine mk_K (by k_asm) mF (by k_asm) (by k_asm) (by (show (_ : Nat) ≤ 400; dsimp only; omega)) ?_); intro e dx t h' tk hh tm n F' N' st e1 e2 ne X'; (refine ⟨_, _, _, rfl, (N' _ (List.Mem.head _)).1, X', ?_⟩); (try k_unfold); (try dsimp only); (refine leave_refused (by k_asm) mF e1 e2 F' (N' _ (List.Mem.head _)).1 (N' _ (List.Mem.tail _ (List.Mem.head _))).1 (by first | assumption | exact stays_of (by assumption) mF (by k_asm)) st (by assumption) ?_ (by rfl)); intro h9 R9; (try dsimp only))))
  (k_with "m setItem ref str" => (k_here; k_dflt (refine' setItem_K PyProof.V.same_str (strKind_is _ _ _ _) ?v ?F ?N ?U ?d ?f ?_ ?z; (case F => k_asm); (case N => k_asm); (case U => k_updF); (case d => k_asm); (case f => k_asm); (case z => assumption); (case v => k_flat)); intro h' o' F' N' hd' hf'; (try dsimp only at N'); (try k_sweep)))
  (k_with "m M enter" => (refine wpAny_call ?_; k_dflt (refine' enter ?k1 ?k2 ?k3 ?k4 ?k5 ?kA ?kF ?kK ?k6 ?k7 ?k8 ?k9 ?kB ?_ ?c2 ?c3 ?c4 ?c5; (case kA => exact rfl); (case kF => exact rfl); (case kK => first | assumption | exact rfl); (case k1 => k_asm); (case k2 => k_asm); (case k3 => k_asm); (case k4 => k_asm); (case k5 => k_asm); (case k6 => k_is); (case k7 => k_is); (case k8 => (show (_ : Nat) < 1000; dsimp only; omega)); (case k9 => exact BindsTo.of_eq rfl); (case c5 => decide); (case kB => exact locs rfl); (case c2 => exact rfl); (case c3 => exact rfl); (case c4 => exact rfl); k_whole)))
  (k_with "m delItem ref str" => (k_here; k_dflt (refine' kt_del_K PyProof.V.same_str (strKind_is _ _ _ _) ?F ?N ?U ?d ?f ?l ?_ ?z; (case F => k_asm); (case N => k_asm); (case U => k_updF); (case d => k_asm); (case f => k_asm); (case l => first | with_reducible assumption | rfl); (case z => assumption)); intro h' o' F' N' hd' hf'; try dsimp only at N'))
  (k_with "m M room" => first | k_dflt exact room_le (k := 1) hdp rfl | k_dflt exact room_le (k := 0) hun rfl | k_dflt exact room_le (k := 1) hun rfl | k_dflt exact room_le (k := 2) hdp rfl | k_dflt exact room_le (k := 0) hdp rfl | ((try simp only [depth_mark, depth_under_make, depth_under_kw, depth_in1, depth_deeper, depth_caller, units_in1, units_deeper, Around.mark_units, units_caller]); (try dsimp only [ktrTop]); omega))
  (k_with "m M sub" => first | exact fun _ h => h | exact fun _ h => .tail _ h | exact fun _ h => .tail _ (.tail _ h) | exact fun _ h => .tail _ (.tail _ (.tail _ h)) | exact fun _ h => .tail _ (.tail _ (.tail _ (.tail _ h))) | exact fun _ h => .tail _ (.tail _ (.tail _ (.tail _ (.tail _ h)))) | exact fun _ h => .tail _ (.tail _ (.tail _ (.tail _ (.tail _ (.tail _ h))))) | exact fun _ h => .tail _ (.tail _ (.tail _ (.tail _ (.tail _ (.tail _ (.tail _ h)))))))
  (k_with "m subscriptTail" => (k_here; (with_reducible show wpAny _ _ (subscriptTail _ _ (Value.ref _) (Value.int (Nat.cast _) _)) _ _ _); (rename News _ _ _ _ => mN); (rename St4 _ _ _ _ _ _ _ _ _ _ _ _ _ => mS); k_dflt ((have S9 := St4.at mS mN (by walk_at "M sub")); refine' item_rss ?S ?hi ?_ ?hs ?hg; (case S => with_reducible exact S9); (case hi => omega); (case hs => with_unfolding_all rfl); (case hg => (intro _; with_unfolding_all rfl)); clear S9)))
  (k_with "m subscriptTail" => (k_here; (with_reducible show wpAny _ _ (subscriptTail _ _ (Value.ref _) (Value.int (Nat.cast _) _)) _ _ _); (rename News _ _ _ _ => mN); (rename St4 _ _ _ _ _ _ _ _ _ _ _ _ _ => mS); k_dflt ((have S9 := St4.at mS mN (by walk_at "M sub")); refine' item_els ?S ?hi ?_ ?hs ?hg; (case S => with_reducible exact S9); (case hi => omega); (case hs => with_unfolding_all rfl); (case hg => (intro _; with_unfolding_all rfl)); clear S9)))
  (k_with "m subscriptTail" => (k_here; (with_reducible show wpAny _ _ (subscriptTail _ _ (Value.ref (RP.r _)) (Value.int 0 _)) _ _ _); (rename News _ _ _ _ => mN); (rename St4 _ _ _ _ _ _ _ _ _ _ _ _ _ => mS); k_dflt ((have S9 := St4.at mS mN (by walk_at "M sub")); refine' item_row0 ?S ?hi ?_ ?hs ?hg; (case S => exact S9); (case hi => omega); (case hs => with_unfolding_all rfl); (case hg => (intro _; with_unfolding_all rfl)); clear S9)))
  (k_with "m eval ListComp" => (k_here; (with_reducible show wpAny _ _ (eval (Expr.ListComp _ [⟨_, _, [], _⟩] _ _) _) _ _ _); k_dflt (refine LCg.ListComp_U (F₀ := by k_asm) (by with_unfolding_all rfl) (by decide) (by rfl) (by decide) (by rfl) ?_)))
  (k_with "m eval ListComp" => (k_here; (with_reducible show wpAny _ _ (eval (Expr.ListComp _ [⟨_, _, [_], _⟩] _ _) _) _ _ _); k_dflt (refine LCt.ListComp_T (F₀ := by k_asm) (by with_unfolding_all rfl) (by decide) (by rfl) (by decide) (by rfl) ?_)))
  (k_with "m CompSrc" => (k_here; (rename Fr _ _ _ _ => mF); (rename News _ _ _ _ => mN); (rename St4 _ _ _ _ _ _ _ _ _ _ _ _ _ => mS); k_dflt (refine' comp_names ?c1 ?c2 ?c3 mS ?c4 ?c5 ?_ ?_; (case c1 => exact rfl); (case c2 => exact mF); (case c3 => exact mN); (case c4 => walk_at "M sub"); (case c5 => omega)); (all_goals first | (intro g9 p9 hp9 I9 oI9 C9 oC9 D9 m9 h9 tk9 ys9 E9 Q9 t9 u9 hC9 hx9 F9 N9 hL9 hQ9; (try dsimp only)) | (intro g9 ys9 hy9; (try dsimp only)))))
  (k_with "m CompSrcT" => (k_here; (rename Fr _ _ _ _ => mF); (rename News _ _ _ _ => mN); k_dflt (refine' comp_strs (fun y => y != Str.ofString ".h") ?c1 ?c2 ?c3 ?c4 ?c6 ?c5 ?_ ?_ ?_; (case c1 => exact rfl); (case c2 => exact mF); (case c3 => exact mN); (case c4 => k_mem); (case c6 => assumption); (case c5 => assumption)); (all_goals first | (intro g9 z9 t9 I9 oI9 C9 oC9 D9 m9 h9 tk9 ys9 E9 Q9 hC9 hx9 F9 N9 hQ9; (try dsimp only)) | (intro g9 ys9 hy9; (try dsimp only)))))
  (k_with "m call builtin:sorted" => (k_here; (with_reducible show wpAny _ _ (call (Value.builtin "sorted") [Value.ref _]) _ _ _); (rename Fr _ _ _ _ => mF); (rename News _ _ _ _ => mN); (rename StrsAre _ _ => mY); k_dflt (refine' sorted_N_str ?c1 ?c2 ?c3 mY ?c5 ?_; (case c1 => exact mF); (case c2 => exact mN); (case c3 => exact ⟨_, (mN _ (.head _)).1, rfl, _, rfl⟩); (case c5 => (rw [StrsAre.length mY, List.length_map]; (rename List.length _ ≤ 60 => hL60); omega)); intro h' vs' ss' e' F' N' S1 S2 S3; clear mF mN)))
  (k_with "m call ref" => (k_here; (with_reducible show wpAny _ _ (call (Value.ref 109) [_, Value.bool true]) _ _ _); (rename Fr _ _ _ _ => mF); (rename News _ _ _ _ => mN); (rename St4 _ _ _ _ _ _ _ _ _ _ _ _ _ => mS); (rename Good _ _ _ => mG); (rename List.Perm _ _ => mp); (rename sortedS _ = true => mq); k_dflt ((have S9 := St4.at mS mN (by walk_at "M sub")); refine' fl_names_t ?k1 ?k2 ?k3 ?k4 ?hk ?hdp ?hun ?S mG ?hi mp mq ?_; (case k1 => k_asm); (case k2 => exact mF); (case S => exact S9); (case k3 => k_asm); (case k4 => k_asm); (case hi => omega); (case hk => exact rfl); (case hdp => walk_at "M room"); (case hun => walk_at "M room"); (intro h' tk' D' vs' c' F' K' e' x'; (have N' := nc e' (News.grown mN (Keep.nil K'))); clear S9 e' K' mN mF; (try k_fold)))))
  (k_with "m call ref" => (k_here; (with_reducible show wpAny _ _ (call (Value.ref 109) [_, Value.bool false]) _ _ _); (rename Fr _ _ _ _ => mF); (rename News _ _ _ _ => mN); (rename St4 _ _ _ _ _ _ _ _ _ _ _ _ _ => mS); (rename Good _ _ _ => mG); (rename List.Perm _ _ => mp); (rename sortedS _ = true => mq); k_dflt ((have S9 := St4.at mS mN (by walk_at "M sub")); refine' fl_names_f ?k1 ?k2 ?k3 ?k4 ?hk ?hdp ?hun ?S mG ?hi mp mq ?_; (case k1 => k_asm); (case k2 => exact mF); (case S => exact S9); (case k3 => k_asm); (case k4 => k_asm); (case hi => omega); (case hk => exact rfl); (case hdp => walk_at "M room"); (case hun => walk_at "M room"); (intro h' tk' D' vs' c' F' K' e' x'; (have N' := nc e' (News.grown mN (Keep.nil K'))); clear S9 e' K' mN mF; (try k_fold)))))
  (k_with "m call ref" => (k_here; (with_reducible show wpAny _ _ (call (Value.ref 67) [_]) _ _ _); (rename Fr _ _ _ _ => mF); (rename News _ _ _ _ => mN); (rename St4 _ _ _ _ _ _ _ _ _ _ _ _ _ => mS); k_dflt ((have S9 := St4.at mS mN (by walk_at "M sub")); refine' fl_anc ?k1 ?k2 ?k3 ?k4 ?hk ?hdp ?hun ?S ?hi ?_; (case k1 => k_asm); (case k2 => exact mF); (case S => exact S9); (case k3 => k_asm); (case k4 => k_asm); (case hi => omega); (case hk => exact rfl); (case hdp => walk_at "M room"); (case hun => walk_at "M room"); (intro h' tk' D' vs' c' F' K' e' x'; (have N' := nc e' (News.grown mN (Keep.nil K'))); clear S9 e' K' mN mF; (try k_fold)))))
  (k_with "m call type:range" => (k_here; (with_reducible show wpAny _ _ (call _ [_, _, _]) _ _ _); (rename Fr _ _ _ _ => F'); (rename News _ _ _ _ => N'); (with_unfolding_all refine range3_rows F' N' (by decide) ?_); intro _ _ _ _ _ _ _ _ _; clear F' N'))
  (k_with "m call type:list" => (k_here; (with_reducible show wpAny _ _ (call _ [Value.ref _]) _ _ _); (rename Fr _ _ _ _ => mF); (rename News _ _ _ _ => mN); (rename IsRange _ _ _ _ _ _ _ _ => mR); k_dflt (refine' list_down ?c1 ?c2 ?c3 mR ?c4 ?_; (case c1 => exact rfl); (case c2 => exact mF); (case c3 => exact mN); (case c4 => omega)); intro D' us' c' h' tk' F' N' i'; clear mF mN))
  (k_with "m compareOp NotEq ref ref" => (k_here; (with_reducible show wpAny _ _ (compareOp CmpOp.NotEq (Value.ref _) (Value.ref _)) _ _ _); (rename News _ _ _ _ => mN); k_dflt (refine' ne_ints (downs_ok (by assumption)).1 (downs_ok (by assumption)).2 ?n3 ?n4 ?n1 ?n2 ?n5 ?_; (case n3 => exact (mN (_, _) (by k_mem)).1); (case n4 => exact (mN (_, _) (by k_mem)).1); (case n1 => assumption); (case n2 => assumption); (case n5 => ((try simp only [units_in1, units_deeper, Around.mark_units, units_caller]); (try dsimp only [ktrTop]); (show (_ : Nat) + 64 < 9900); omega)))))
  (k_with "m compareOp NotEq ref ref" => (k_here; (with_reducible show wpAny _ _ (compareOp CmpOp.NotEq (Value.ref _) (Value.ref _)) _ _ _); (rename News _ _ _ _ => mN); (rename ∀ y ∈ _, PyData.strOk y = true => mK); k_dflt (refine' ne_strs ?n3 ?n4 ?n1 ?n2 ?n6 ?n5 ?_; (case n3 => exact (mN (_, _) (by k_mem)).1); (case n4 => exact (mN (_, _) (by k_mem)).1); (case n1 => assumption); (case n2 => assumption); (case n6 => first | exact mK | exact fun y hy => mK y (List.mem_filter.mp hy).1); (case n5 => ((try simp only [units_in1, units_deeper, Around.mark_units, units_caller]); (try dsimp only [ktrTop]); (show (_ : Nat) + 64 < 9900); omega)))))
  trivial
section
variable {w : World} {mean : ExcName → Option Value} {mg mb : Str → Option Value} {dp un : Nat} {gd : Option (List Code)} {cs : Scope} {a : Addr} {ccd : Value} {A₀ : Around} {base h₀ : Heap} {L : Addr} {m : Str → Option Value} {s : Shared} {Q E : Value → Shared → Prop} {Q9 : Flow → Shared → Prop} {n : Nat} {st : Stmt} {tp : Tok} {hvs : List Value} {hs : List Str} {H : Addr} {ch : Nat}
  {x : Str} {tx : Tok} {v : Int} {tv : Tok} {R : Nat → RP} {P : Nat → EP} {wl rw el rs : Addr} {ex : List (Addr × Obj)} {xs : List Int} {sp : Int} {i : Nat} {tb : List Stmt} {lb : List Stmt} {r1 l1 e1 e2 e3 : Addr} {x1 x2 x3 : Str} {v1 v2 v3 : Int} {b1 b2 b3 c : Bool}
set_option maxRecDepth 100000 in
set_option maxHeartbeats 8000000 in
theorem fin_0
   (B : Below A₀ base [] h₀) (F : Fr h₀ L s.heap (fun y => if y = Str.ofString "place" then some (.int (i : Int) tp) else if y = Str.ofString "well" then some (.ref wl) else if y = Str.ofString "envs" then some (.ref el) else if y = Str.ofString "rows" then some (.ref rs) else m y)) (X : (hd.heap_39 w.params).In h₀) (T : Top VW LO mean mg mb h₀) (hb : bodyOf (hd.heap_39 w.params) 188 = lb) (hc : scopeOf (hd.heap_39 w.params) 188 = cs) (hdp : dp ≤ 310) (hun : un ≤ 20)
   (hst : nth (forBody (nth lb 6)) 0 = st)
   (S : St4 w h₀ L wl rw el rs ex xs P R sp s.heap) (G : Good P R n) (hi : i < 4)
   (k : ∀ h' tk' H hvs hs c, Fr h₀ L h' (fun y => if y = Str.ofString "here" then some (.ref H) else if y = Str.ofString "place" then some (.int (i : Int) tp) else if y = Str.ofString "well" then some (.ref wl) else if y = Str.ofString "envs" then some (.ref el) else if y = Str.ofString "rows" then some (.ref rs) else m y) → News h₀ L h' ((H, PySem.W.listOf (List.toArray hvs) c) :: snap h' (foot4 wl rw el rs ex P R)) → St4 w h₀ L wl rw el rs ex xs P R sp h' → StrsAre hvs hs → hs.Perm ((P i).E.map (·.1)) → sortedS hs = true → Q9 .next { s with heap := h', toks := tk' })
   : wpAny (model PR w) (ktrTop dp un gd (Str.ofString "law") cs L a ccd [] []) (exec st (envOf (Str.ofString "law") cs L a ccd)) Q9 E s := by
  refine lit_use hb hc (by k_is) ?_
  intro q1 q2
  subst q2
  subst q1
  simp only [nth_0, nth_s, forBody_for] at hst
  subst hst
  clear hb hc
  have N := S.news
  have hL : (R i).E.length ≤ 60 := by rw [(G.tie i hi).1]; exact (G.nm4 hi).2
  k_steps
  · rename ∀ tk', _ => hQ; exact hQ _
  · try dsimp only
    rename News _ _ _ _ => n9
    rename Fr _ _ _ _ => f9
    rename St4 _ _ _ _ _ _ _ _ _ _ _ _ _ => S9
    rename StrsAre _ _ => x9
    rename List.Perm _ _ => p9
    rename sortedS _ = true => q9
    have S8 := St4.at S9 n9 (fun _ h => .tail _ (.tail _ h))
    exact k _ _ _ _ _ _ f9 (nc (n9 _ (.head _)) S8.news) S8 x9 (by rw [← (G.tie i hi).1]; exact p9) q9
set_option maxRecDepth 100000 in
set_option maxHeartbeats 8000000 in
theorem fin_1
   (B : Below A₀ base [] h₀) (F : Fr h₀ L s.heap (fun y => if y = Str.ofString "here" then some (.ref H) else if y = Str.ofString "place" then some (.int (i : Int) tp) else if y = Str.ofString "well" then some (.ref wl) else if y = Str.ofString "envs" then some (.ref el) else if y = Str.ofString "rows" then some (.ref rs) else m y)) (X : (hd.heap_39 w.params).In h₀) (T : Top VW LO mean mg mb h₀) (hb : bodyOf (hd.heap_39 w.params) 188 = lb) (hc : scopeOf (hd.heap_39 w.params) 188 = cs) (hdp : dp ≤ 310) (hun : un ≤ 20)
   (hst : nth (forBody (nth lb 6)) 1 = st)
   (N : News h₀ L s.heap ((H, PySem.W.listOf (List.toArray hvs) ch) :: snap s.heap (foot4 wl rw el rs ex P R))) (S : St4 w h₀ L wl rw el rs ex xs P R sp s.heap) (G : Good P R n) (hi : i < 4) (x1 : StrsAre hvs hs) (p1 : hs.Perm ((P i).E.map (·.1))) (q1 : sortedS hs = true)
   (k : ∀ h' tk', Fr h₀ L h' (fun y => if y = Str.ofString "here" then some (.ref H) else if y = Str.ofString "place" then some (.int (i : Int) tp) else if y = Str.ofString "well" then some (.ref wl) else if y = Str.ofString "envs" then some (.ref el) else if y = Str.ofString "rows" then some (.ref rs) else m y) → News h₀ L h' ((H, PySem.W.listOf (List.toArray hvs) ch) :: snap h' (foot4 wl rw el rs ex P R)) → St4 w h₀ L wl rw el rs ex xs P R sp h' → Q9 .next { s with heap := h', toks := tk' })
   : wpAny (model PR w) (ktrTop dp un gd (Str.ofString "law") cs L a ccd [] []) (exec st (envOf (Str.ofString "law") cs L a ccd)) Q9 E s := by
  refine lit_use hb hc (by k_is) ?_
  intro q1 q2
  subst q2
  subst q1
  simp only [nth_0, nth_s, forBody_for] at hst
  subst hst
  clear hb hc
  have hK : ∀ y ∈ hs, PyData.strOk y = true := fun y hy => ((G.nm4 hi).1 y (p1.mem_iff.mp hy)).ok
  have hL : hs.length ≤ 100 := by rw [p1.length_eq, List.length_map]; exact Nat.le_trans (G.nm4 hi).2 (by decide)
  k_steps
  all_goals first
    | (rename ∀ tk', _ => hQ; exact hQ _)
    | (try dsimp only
       rename News _ _ _ _ => n9
       rename Fr _ _ _ _ => f9
       rename St4 _ _ _ _ _ _ _ _ _ _ _ _ _ => S9
       have S8 := St4.at S9 n9 (by walk_at "M sub")
       exact k _ _ f9 (nc (n9 (H, PySem.W.listOf (List.toArray hvs) ch) (by k_mem)) S8.news) S8)
set_option maxRecDepth 100000 in
set_option maxHeartbeats 8000000 in
theorem fin_2
   (B : Below A₀ base [] h₀) (F : Fr h₀ L s.heap (fun y => if y = Str.ofString "here" then some (.ref H) else if y = Str.ofString "place" then some (.int (i : Int) tp) else if y = Str.ofString "well" then some (.ref wl) else if y = Str.ofString "envs" then some (.ref el) else if y = Str.ofString "rows" then some (.ref rs) else m y)) (X : (hd.heap_39 w.params).In h₀) (T : Top VW LO mean mg mb h₀) (hb : bodyOf (hd.heap_39 w.params) 188 = lb) (hc : scopeOf (hd.heap_39 w.params) 188 = cs) (hdp : dp ≤ 310) (hun : un ≤ 20)
   (hst : nth (forBody (nth lb 6)) 2 = st)
   (N : News h₀ L s.heap ((H, PySem.W.listOf (List.toArray hvs) ch) :: snap s.heap (foot4 wl rw el rs ex P R))) (S : St4 w h₀ L wl rw el rs ex xs P R sp s.heap) (G : Good P R n) (hi : i < 4) (x1 : StrsAre hvs hs) (p1 : hs.Perm ((P i).E.map (·.1))) (q1 : sortedS hs = true)
   (k : ∀ h' tk', Fr h₀ L h' (fun y => if y = Str.ofString "here" then some (.ref H) else if y = Str.ofString "place" then some (.int (i : Int) tp) else if y = Str.ofString "well" then some (.ref wl) else if y = Str.ofString "envs" then some (.ref el) else if y = Str.ofString "rows" then some (.ref rs) else m y) → News h₀ L h' ((H, PySem.W.listOf (List.toArray hvs) ch) :: snap h' (foot4 wl rw el rs ex P R)) → St4 w h₀ L wl rw el rs ex xs P R sp h' → Q9 .next { s with heap := h', toks := tk' })
   : wpAny (model PR w) (ktrTop dp un gd (Str.ofString "law") cs L a ccd [] []) (exec st (envOf (Str.ofString "law") cs L a ccd)) Q9 E s := by
  refine lit_use hb hc (by k_is) ?_
  intro q1 q2
  subst q2
  subst q1
  simp only [nth_0, nth_s, forBody_for] at hst
  subst hst
  clear hb hc
  have hK : ∀ y ∈ hs, PyData.strOk y = true := fun y hy => ((G.nm4 hi).1 y (p1.mem_iff.mp hy)).ok
  have hL : hs.length ≤ 100 := by rw [p1.length_eq, List.length_map]; exact Nat.le_trans (G.nm4 hi).2 (by decide)
  k_steps
  all_goals first
    | (rename ∀ tk', _ => hQ; exact hQ _)
    | (try dsimp only
       rename News _ _ _ _ => n9
       rename Fr _ _ _ _ => f9
       rename St4 _ _ _ _ _ _ _ _ _ _ _ _ _ => S9
       have S8 := St4.at S9 n9 (by walk_at "M sub")
       exact k _ _ f9 (nc (n9 (H, PySem.W.listOf (List.toArray hvs) ch) (by k_mem)) S8.news) S8)
end
end
section
open PySem PySem.W PySem.Calls PyProof.Rows PyProof.V PySem.W.X
set_option linter.unusedVariables false
theorem said_FinT_1 : True := by
  k_with_none
  (k_with "m binaryOp Add str str" => (k_here; (with_reducible show wpAny _ _ (binaryOp Operator.Add (Value.str _ _) (Value.str _ _)) _ _ _); (refine' PyProof.Rows.add_str ?hh ?hsz; (case hsz => (have e1 := litA; have e2 := litB; have e3 := sz_line; (try rw [StrLaws.length_append]); omega)); intro t9 k9)))
  (k_with "m k_room" => first | k_dflt exact room_lt (k := 1) hdp rfl | k_dflt exact room_lt (k := 2) hdp rfl | k_dflt exact room_lt (k := 3) hdp rfl | k_dflt exact room_lt (k := 4) hdp rfl | k_dflt exact room_lt (k := 0) hdp rfl | decide | ((try simp only [depth_mark, depth_under_make, depth_under_kw, depth_in1, depth_deeper, depth_caller]); (try dsimp only [ktrTop]); (show (_ : Nat) < 1000); omega))
  (k_with "m k_units" => first | k_dflt exact unit_lt (k := 0) hun rfl | k_dflt exact unit_lt (k := 1) hun rfl | k_dflt exact unit_lt (k := 2) hun rfl | exact Nat.le_of_ble_eq_true rfl | ((try simp only [units_in1, units_deeper, Around.mark_units, units_caller]); (try dsimp only [ktrTop]); (show (_ : Nat) < 9900); omega))
  (k_with "m exec Raise some none" => (k_here; k_dflt (refine' raise_own ?hh ?_; (case hh => exact rfl))))
  (k_with "m call ref" => (k_here; (with_reducible show wpAny _ _ (call (Value.ref 44) [Value.str _ _]) _ _ _); (rename Fr _ _ _ _ => mF); k_dflt ((refine mk_K (by k_asm) mF (by k_asm) (by k_asm) (by (show (_ : Nat) ≤ 400; dsimp only; omega)) ?_); intro e dx t h' tk hh tm n F' N' st e1 e2 ne X'; (refine ⟨_, _, _, rfl, (N' _ (List.Mem.head _)).1, X', ?_⟩); (try k_unfold); (try dsimp only); (refine leave_refused (by k_asm) mF e1 e2 F' (N' _ (List.Mem.head _)).1 (N' _ (List.Mem.tail _ (List.Mem.head _))).1 (by first | assumption | exact stays_of (by assumption) mF (by k_asm)) st (by assumption) ?_ (by rfl)); intro h9 R9; (try dsimp only))))
  (k_with "m setItem ref str" => (k_here; k_dflt (refine' setItem_K PyProof.V.same_str (strKind_is _ _ _ _) ?v ?F ?N ?U ?d ?f ?_ ?z; (case F => k_asm); (case N => k_asm); (case U => k_updF); (case d => k_asm); (case f => k_asm); (case z => assumption); (case v => k_flat)); intro h' o' F' N' hd' hf'; (try dsimp only at N'); (try k_sweep)))
  (k_with "m M enter" => (refine wpAny_call ?_; k_dflt (refine' enter ?k1 ?k2 ?k3 ?k4 ?k5 ?kA ?kF ?kK ?k6 ?k7 ?k8 ?k9 ?kB ?_ ?c2 ?c3 ?c4 ?c5; (case kA => exact rfl); (case kF => exact rfl); (case kK => first | assumption | exact rfl); (case k1 => k_asm); (case k2 => k_asm); (case k3 => k_asm); (case k4 => k_asm); (case k5 => k_asm); (case k6 => k_is); (case k7 => k_is); (case k8 => (show (_ : Nat) < 1000; dsimp only; omega)); (case k9 => exact BindsTo.of_eq rfl); (case c5 => decide); (case kB => exact locs rfl); (case c2 => exact rfl); (case c3 => exact rfl); (case c4 => exact rfl); k_whole)))
  (k_with "m delItem ref str" => (k_here; k_dflt (refine' kt_del_K PyProof.V.same_str (strKind_is _ _ _ _) ?F ?N ?U ?d ?f ?l ?_ ?z; (case F => k_asm); (case N => k_asm); (case U => k_updF); (case d => k_asm); (case f => k_asm); (case l => first | with_reducible assumption | rfl); (case z => assumption)); intro h' o' F' N' hd' hf'; try dsimp only at N'))
  (k_with "m M room" => first | k_dflt exact room_le (k := 1) hdp rfl | k_dflt exact room_le (k := 0) hun rfl | k_dflt exact room_le (k := 1) hun rfl | k_dflt exact room_le (k := 2) hdp rfl | k_dflt exact room_le (k := 0) hdp rfl | ((try simp only [depth_mark, depth_under_make, depth_under_kw, depth_in1, depth_deeper, depth_caller, units_in1, units_deeper, Around.mark_units, units_caller]); (try dsimp only [ktrTop]); omega))
  (k_with "m M sub" => first | exact fun _ h => h | exact fun _ h => .tail _ h | exact fun _ h => .tail _ (.tail _ h) | exact fun _ h => .tail _ (.tail _ (.tail _ h)) | exact fun _ h => .tail _ (.tail _ (.tail _ (.tail _ h))) | exact fun _ h => .tail _ (.tail _ (.tail _ (.tail _ (.tail _ h)))) | exact fun _ h => .tail _ (.tail _ (.tail _ (.tail _ (.tail _ (.tail _ h))))) | exact fun _ h => .tail _ (.tail _ (.tail _ (.tail _ (.tail _ (.tail _ (.tail _ h)))))))
  (k_with "m subscriptTail" => (k_here; (with_reducible show wpAny _ _ (subscriptTail _ _ (Value.ref _) (Value.int (Nat.cast _) _)) _ _ _); (rename News _ _ _ _ => mN); (rename St4 _ _ _ _ _ _ _ _ _ _ _ _ _ => mS); k_dflt ((have S9 := St4.at mS mN (by walk_at "M sub")); refine' item_rss ?S ?hi ?_ ?hs ?hg; (case S => with_reducible exact S9); (case hi => omega); (case hs => with_unfolding_all rfl); (case hg => (intro _; with_unfolding_all rfl)); clear S9)))
  (k_with "m subscriptTail" => (k_here; (with_reducible show wpAny _ _ (subscriptTail _ _ (Value.ref _) (Value.int (Nat.cast _) _)) _ _ _); (rename News _ _ _ _ => mN); (rename St4 _ _ _ _ _ _ _ _ _ _ _ _ _ => mS); k_dflt ((have S9 := St4.at mS mN (by walk_at "M sub")); refine' item_els ?S ?hi ?_ ?hs ?hg; (case S => with_reducible exact S9); (case hi => omega); (case hs => with_unfolding_all rfl); (case hg => (intro _; with_unfolding_all rfl)); clear S9)))
  (k_with "m subscriptTail" => (k_here; (with_reducible show wpAny _ _ (subscriptTail _ _ (Value.ref (RP.r _)) (Value.int 0 _)) _ _ _); (rename News _ _ _ _ => mN); (rename St4 _ _ _ _ _ _ _ _ _ _ _ _ _ => mS); k_dflt ((have S9 := St4.at mS mN (by walk_at "M sub")); refine' item_row0 ?S ?hi ?_ ?hs ?hg; (case S => exact S9); (case hi => omega); (case hs => with_unfolding_all rfl); (case hg => (intro _; with_unfolding_all rfl)); clear S9)))
  (k_with "m eval ListComp" => (k_here; (with_reducible show wpAny _ _ (eval (Expr.ListComp _ [⟨_, _, [], _⟩] _ _) _) _ _ _); k_dflt (refine LCg.ListComp_U (F₀ := by k_asm) (by with_unfolding_all rfl) (by decide) (by rfl) (by decide) (by rfl) ?_)))
  (k_with "m eval ListComp" => (k_here; (with_reducible show wpAny _ _ (eval (Expr.ListComp _ [⟨_, _, [_], _⟩] _ _) _) _ _ _); k_dflt (refine LCt.ListComp_T (F₀ := by k_asm) (by with_unfolding_all rfl) (by decide) (by rfl) (by decide) (by rfl) ?_)))
  (k_with "m CompSrc" => (k_here; (rename Fr _ _ _ _ => mF); (rename News _ _ _ _ => mN); (rename St4 _ _ _ _ _ _ _ _ _ _ _ _ _ => mS); k_dflt (refine' comp_names ?c1 ?c2 ?c3 mS ?c4 ?c5 ?_ ?_; (case c1 => exact rfl); (case c2 => exact mF); (case c3 => exact mN); (case c4 => walk_at "M sub"); (case c5 => omega)); (all_goals first | (intro g9 p9 hp9 I9 oI9 C9 oC9 D9 m9 h9 tk9 ys9 E9 Q9 t9 u9 hC9 hx9 F9 N9 hL9 hQ9; (try dsimp only)) | (intro g9 ys9 hy9; (try dsimp only)))))
  (k_with "m CompSrcT" => (k_here; (rename Fr _ _ _ _ => mF); (rename News _ _ _ _ => mN); k_dflt (refine' comp_strs (fun y => y != Str.ofString ".h") ?c1 ?c2 ?c3 ?c4 ?c6 ?c5 ?_ ?_ ?_; (case c1 => exact rfl); (case c2 => exact mF); (case c3 => exact mN); (case c4 => k_mem); (case c6 => assumption); (case c5 => assumption)); (all_goals first | (intro g9 z9 t9 I9 oI9 C9 oC9 D9 m9 h9 tk9 ys9 E9 Q9 hC9 hx9 F9 N9 hQ9; (try dsimp only)) | (intro g9 ys9 hy9; (try dsimp only)))))
  (k_with "m call builtin:sorted" => (k_here; (with_reducible show wpAny _ _ (call (Value.builtin "sorted") [Value.ref _]) _ _ _); (rename Fr _ _ _ _ => mF); (rename News _ _ _ _ => mN); (rename StrsAre _ _ => mY); k_dflt (refine' sorted_N_str ?c1 ?c2 ?c3 mY ?c5 ?_; (case c1 => exact mF); (case c2 => exact mN); (case c3 => exact ⟨_, (mN _ (.head _)).1, rfl, _, rfl⟩); (case c5 => (rw [StrsAre.length mY, List.length_map]; (rename List.length _ ≤ 60 => hL60); omega)); intro h' vs' ss' e' F' N' S1 S2 S3; clear mF mN)))
  (k_with "m call ref" => (k_here; (with_reducible show wpAny _ _ (call (Value.ref 109) [_, Value.bool true]) _ _ _); (rename Fr _ _ _ _ => mF); (rename News _ _ _ _ => mN); (rename St4 _ _ _ _ _ _ _ _ _ _ _ _ _ => mS); (rename Good _ _ _ => mG); (rename List.Perm _ _ => mp); (rename sortedS _ = true => mq); k_dflt ((have S9 := St4.at mS mN (by walk_at "M sub")); refine' fl_names_t ?k1 ?k2 ?k3 ?k4 ?hk ?hdp ?hun ?S mG ?hi mp mq ?_; (case k1 => k_asm); (case k2 => exact mF); (case S => exact S9); (case k3 => k_asm); (case k4 => k_asm); (case hi => omega); (case hk => exact rfl); (case hdp => walk_at "M room"); (case hun => walk_at "M room"); (intro h' tk' D' vs' c' F' K' e' x'; (have N' := nc e' (News.grown mN (Keep.nil K'))); clear S9 e' K' mN mF; (try k_fold)))))
  (k_with "m call ref" => (k_here; (with_reducible show wpAny _ _ (call (Value.ref 109) [_, Value.bool false]) _ _ _); (rename Fr _ _ _ _ => mF); (rename News _ _ _ _ => mN); (rename St4 _ _ _ _ _ _ _ _ _ _ _ _ _ => mS); (rename Good _ _ _ => mG); (rename List.Perm _ _ => mp); (rename sortedS _ = true => mq); k_dflt ((have S9 := St4.at mS mN (by walk_at "M sub")); refine' fl_names_f ?k1 ?k2 ?k3 ?k4 ?hk ?hdp ?hun ?S mG ?hi mp mq ?_; (case k1 => k_asm); (case k2 => exact mF); (case S => exact S9); (case k3 => k_asm); (case k4 => k_asm); (case hi => omega); (case hk => exact rfl); (case hdp => walk_at "M room"); (case hun => walk_at "M room"); (intro h' tk' D' vs' c' F' K' e' x'; (have N' := nc e' (News.grown mN (Keep.nil K'))); clear S9 e' K' mN mF; (try k_fold)))))
  (k_with "m call ref" => (k_here; (with_reducible show wpAny _ _ (call (Value.ref 67) [_]) _ _ _); (rename Fr _ _ _ _ => mF); (rename News _ _ _ _ => mN); (rename St4 _ _ _ _ _ _ _ _ _ _ _ _ _ => mS); k_dflt ((have S9 := St4.at mS mN (by walk_at "M sub")); refine' fl_anc ?k1 ?k2 ?k3 ?k4 ?hk ?hdp ?hun ?S ?hi ?_; (case k1 => k_asm); (case k2 => exact mF); (case S => exact S9); (case k3 => k_asm); (case k4 => k_asm); (case hi => omega); (case hk => exact rfl); (case hdp => walk_at "M room"); (case hun => walk_at "M room"); (intro h' tk' D' vs' c' F' K' e' x'; (have N' := nc e' (News.grown mN (Keep.nil K'))); clear S9 e' K' mN mF; (try k_fold)))))
  (k_with "m call type:range" => (k_here; (with_reducible show wpAny _ _ (call _ [_, _, _]) _ _ _); (rename Fr _ _ _ _ => F'); (rename News _ _ _ _ => N'); (with_unfolding_all refine range3_rows F' N' (by decide) ?_); intro _ _ _ _ _ _ _ _ _; clear F' N'))
  (k_with "m call type:list" => (k_here; (with_reducible show wpAny _ _ (call _ [Value.ref _]) _ _ _); (rename Fr _ _ _ _ => mF); (rename News _ _ _ _ => mN); (rename IsRange _ _ _ _ _ _ _ _ => mR); k_dflt (refine' list_down ?c1 ?c2 ?c3 mR ?c4 ?_; (case c1 => exact rfl); (case c2 => exact mF); (case c3 => exact mN); (case c4 => omega)); intro D' us' c' h' tk' F' N' i'; clear mF mN))
  (k_with "m compareOp NotEq ref ref" => (k_here; (with_reducible show wpAny _ _ (compareOp CmpOp.NotEq (Value.ref _) (Value.ref _)) _ _ _); (rename News _ _ _ _ => mN); k_dflt (refine' ne_ints (downs_ok (by assumption)).1 (downs_ok (by assumption)).2 ?n3 ?n4 ?n1 ?n2 ?n5 ?_; (case n3 => exact (mN (_, _) (by k_mem)).1); (case n4 => exact (mN (_, _) (by k_mem)).1); (case n1 => assumption); (case n2 => assumption); (case n5 => ((try simp only [units_in1, units_deeper, Around.mark_units, units_caller]); (try dsimp only [ktrTop]); (show (_ : Nat) + 64 < 9900); omega)))))
  (k_with "m compareOp NotEq ref ref" => (k_here; (with_reducible show wpAny _ _ (compareOp CmpOp.NotEq (Value.ref _) (Value.ref _)) _ _ _); (rename News _ _ _ _ => mN); (rename ∀ y ∈ _, PyData.strOk y = true => mK); k_dflt (refine' ne_strs ?n3 ?n4 ?n1 ?n2 ?n6 ?n5 ?_; (case n3 => exact (mN (_, _) (by k_mem)).1); (case n4 => exact (mN (_, _) (by k_mem)).1); (case n1 => assumption); (case n2 => assumption); (case n6 => first | exact mK | exact fun y hy => mK y (List.mem_filter.mp hy).1); (case n5 => ((try simp only [units_in1, units_deeper, Around.mark_units, units_caller]); (try dsimp only [ktrTop]); (show (_ : Nat) + 64 < 9900); omega)))))
  trivial
theorem ne_vals {prog : Program} {w : World} {A : Around} {E : Value → Shared → Prop} {s : Shared} {Q : Value → Shared → Prop} {v v' : Value} {o : Option Int} (h1 : ValIs v o) (h2 : ValIs v' o) (h : Q (.bool false) s) : wpAny (model prog w) A (compareOp .NotEq v v') Q E s := by
  cases o with
  | none => rw [show v = .none from h1, show v' = .none from h2]; exact EqNone.ne_none_none h
  | some z =>
    obtain ⟨t, rfl⟩ := h1
    obtain ⟨t', rfl⟩ := h2
    exact ne_int (by simpa using h)
theorem isnot_val {prog : Program} {w : World} {A : Around} {E : Value → Shared → Prop} {s : Shared} {Q : Value → Shared → Prop} {v : Value} {o : Option Int} (h1 : ValIs v o) (h : Q (.bool o.isSome) s) : wpAny (model prog w) A (compareOp .IsNot v .none) Q E s := by
  cases o with
  | none => rw [show v = .none from h1]; exact wpAny_isNot_self (by rfl) h
  | some z => obtain ⟨t, rfl⟩ := h1; exact isnot_int_none h
theorem ne_bools {prog : Program} {w : World} {A : Around} {E : Value → Shared → Prop} {s : Shared} {Q : Value → Shared → Prop} {a b : Bool} (e : a = b) (h : Q (.bool false) s) : wpAny (model prog w) A (compareOp .NotEq (.bool a) (.bool b)) Q E s := by
  subst e
  exact ne_bool (by simpa using h)
theorem hs_any {hs : List Str} {E : List Ent} {x : Str} (p : hs.Perm (E.map (·.1))) : ((look x E).map (·.1)).isSome = hs.any (· == x) := by
  rw [Option.isSome_map, Bool.eq_iff_iff, List.any_eq_true]
  constructor
  · intro h
    cases q : look x E with
    | none => rw [q] at h; cases h
    | some r =>
      rcases Classical.em (∃ p ∈ E, p.1 = x) with ⟨r, hr, e⟩ | n
      · exact ⟨x, p.mem_iff.mpr (List.mem_map.mpr ⟨r, hr, e⟩), by simp⟩
      · have := (look_none_iff x E).mpr fun r hr e => n ⟨r, hr, e⟩
        rw [q] at this; cases this
  · rintro ⟨y, hy, e⟩
    obtain ⟨r, hr, e'⟩ := List.mem_map.mp (p.mem_iff.mp hy)
    cases q : look x E with
    | none => exact absurd (e'.trans (eq_of_beq e)) ((look_none_iff x E).mp q r hr)
    | some _ => rfl
theorem near_tie {P : Nat → EP} {R : Nat → RP} {n : Nat} (G : Good P R n) {x : Str} : ∀ {i : Nat}, i < 4 → nearE (fun j => (R j).E) i x = nearE (fun j => (P j).E) i x
  | 0, h => by simp only [nearE, (G.tie 0 h).1]
  | i + 1, h => by simp only [nearE, (G.tie (i + 1) h).1, near_tie G (Nat.lt_of_succ_lt h)]
section
variable {w : World} {mean : ExcName → Option Value} {mg mb : Str → Option Value} {dp un : Nat} {gd : Option (List Code)} {cn : Str} {cs : Scope} {a : Addr} {ccd : Value} {A₀ : Around} {base h₀ : Heap} {L wl rw el rs : Addr} {ex : List (Addr × Obj)} {m : Str → Option Value} {s : Shared} {Q E : Value → Shared → Prop}
  {R : Nat → RP} {P : Nat → EP} {xs : List Int} {sp : Int} {i n : Nat} {x : Str} {tx tp : Tok}
theorem fl_near2
   (B : Below A₀ base [] h₀) (F : Fr h₀ L s.heap m) (X : (hd.heap_39 w.params).In h₀) (T : Top VW LO mean mg mb h₀) (hk : cs.kind = .function) (hdp : dp ≤ 310) (hun : un ≤ 20)
   (S : St4 w h₀ L wl rw el rs ex xs P R sp s.heap) (G : Good P R n) (hi : i < 4)
   (k : ∀ h' tk' v, ValIs v (nearE (fun j => (P j).E) i x) → Fr h₀ L h' m → Keep s.heap [] h' → Q v { s with heap := h', toks := tk' })
   : wpAny (model PR w) (ktrTop dp un gd cn cs L a ccd [] []) (call (.ref 183) [.ref rs, .int (i : Int) tp, .str x tx]) Q E s :=
  fl_near B F X T hk hdp hun S hi fun h' tk' v hv => k h' tk' v (near_tie G hi ▸ hv)
end
theorem said_FinT_2 : True := by
  (k_with "m call ref" => (k_here; (with_reducible show wpAny _ _ (call (Value.ref 60) [_, _]) _ _ _); (rename Fr _ _ _ _ => mF); (rename News _ _ _ _ => mN); (rename St4 _ _ _ _ _ _ _ _ _ _ _ _ _ => mS); k_dflt ((have S9 := St4.at mS mN (by walk_at "M sub")); refine' fl_look ?k1 ?k2 ?k3 ?k4 ?hk ?hdp ?hun ?S ?hi ?_; (case k1 => k_asm); (case k2 => exact mF); (case S => exact S9); (case k3 => k_asm); (case k4 => k_asm); (case hi => omega); (case hk => exact rfl); (case hdp => walk_at "M room"); (case hun => walk_at "M room"); (intro h' tk' v' hv' F' K'; (have N' := News.grown mN (Keep.nil K')); clear S9 K' mN mF; (try k_fold)))))
  (k_with "m call ref" => (k_here; (with_reducible show wpAny _ _ (call (Value.ref 53) [_, _]) _ _ _); (rename Fr _ _ _ _ => mF); (rename News _ _ _ _ => mN); (rename St4 _ _ _ _ _ _ _ _ _ _ _ _ _ => mS); k_dflt ((have S9 := St4.at mS mN (by walk_at "M sub")); refine' fl_here ?k1 ?k2 ?k3 ?k4 ?hk ?hdp ?hun ?S ?hi ?_; (case k1 => k_asm); (case k2 => exact mF); (case S => exact S9); (case k3 => k_asm); (case k4 => k_asm); (case hi => omega); (case hk => exact rfl); (case hdp => walk_at "M room"); (case hun => walk_at "M room"); (intro h' tk' v' hv' F' K'; (have N' := News.grown mN (Keep.nil K')); clear S9 K' mN mF; (try k_fold)))))
  (k_with "m call ref" => (k_here; (with_reducible show wpAny _ _ (call (Value.ref 183) [_, _, _]) _ _ _); (rename Fr _ _ _ _ => mF); (rename News _ _ _ _ => mN); (rename St4 _ _ _ _ _ _ _ _ _ _ _ _ _ => mS); (rename Good _ _ _ => mG); k_dflt ((have S9 := St4.at mS mN (by walk_at "M sub")); refine' fl_near2 ?k1 ?k2 ?k3 ?k4 ?hk ?hdp ?hun ?S mG ?hi ?_; (case k1 => k_asm); (case k2 => exact mF); (case S => exact S9); (case k3 => k_asm); (case k4 => k_asm); (case hi => omega); (case hk => exact rfl); (case hdp => walk_at "M room"); (case hun => walk_at "M room"); (intro h' tk' v' hv' F' K'; (have N' := News.grown mN (Keep.nil K')); clear S9 K' mN mF; (try k_fold)))))
  (k_with "m compareOp NotEq" => (k_here; (with_reducible show wpAny _ _ (compareOp CmpOp.NotEq _ _) _ _ _); refine ne_vals (by assumption) (by assumption) ?_))
  (k_with "m compareOp NotEq bool bool" => (k_here; (with_reducible show wpAny _ _ (compareOp CmpOp.NotEq (Value.bool _) (Value.bool _)) _ _ _); (rename List.Perm _ _ => mp); refine ne_bools (hs_any mp) ?_))
  (k_with "m compareOp IsNot" => (k_here; (with_reducible show wpAny _ _ (compareOp CmpOp.IsNot _ Value.none) _ _ _); refine isnot_val (by assumption) ?_))
  (k_with "m compareOp In str ref" => (k_here; (with_reducible show wpAny _ _ (compareOp CmpOp.In (Value.str _ _) (Value.ref _)) _ _ _); (rename News _ _ _ _ => mN); (rename StrsAre _ _ => mX); k_dflt (refine' in_list_strs ?k1 mX ?_; (case k1 => exact ⟨_, (mN (_, _) (by k_mem)).1, rfl, _, rfl⟩))))
  (k_with "m exec For Name List cons nil" => (k_here; (rename Fr _ _ _ _ => lF'); (with_unfolding_all refine' For_invVF lF' rfl rfl ?_ (hE := ?hE); (case hE => assumption); k_whole)))
  (k_with "m pyIter ref" => (k_here; refine stopN ?_))
  trivial
section
variable {w : World} {mean : ExcName → Option Value} {mg mb : Str → Option Value} {dp un : Nat} {gd : Option (List Code)} {cs : Scope} {a : Addr} {ccd : Value} {A₀ : Around} {base h₀ : Heap} {L : Addr} {m : Str → Option Value} {s : Shared} {Q E : Value → Shared → Prop} {Q9 : Flow → Shared → Prop} {n : Nat} {st : Stmt} {tp : Tok} {hvs : List Value} {hs : List Str} {H : Addr} {ch : Nat} {I Dl : Addr} {oI ol : Obj}
  {x : Str} {tx : Tok} {v : Int} {tv : Tok} {R : Nat → RP} {P : Nat → EP} {wl rw el rs : Addr} {ex : List (Addr × Obj)} {xs : List Int} {sp : Int} {i : Nat} {tb : List Stmt} {lb : List Stmt} {r1 l1 e1 e2 e3 : Addr} {x1 x2 x3 : Str} {v1 v2 v3 : Int} {b1 b2 b3 c : Bool}
set_option maxRecDepth 100000 in
set_option maxHeartbeats 8000000 in
theorem fin_turn
   (B : Below A₀ base [] h₀) (F : Fr h₀ L s.heap (fun y => if y = Str.ofString "name" then some (.str x tx) else if y = Str.ofString "here" then some (.ref H) else if y = Str.ofString "place" then some (.int (i : Int) tp) else if y = Str.ofString "well" then some (.ref wl) else if y = Str.ofString "envs" then some (.ref el) else if y = Str.ofString "rows" then some (.ref rs) else m y)) (X : (hd.heap_39 w.params).In h₀) (T : Top VW LO mean mg mb h₀) (hb : bodyOf (hd.heap_39 w.params) 188 = lb) (hc : scopeOf (hd.heap_39 w.params) 188 = cs) (hdp : dp ≤ 310) (hun : un ≤ 20)
   (htb : forBody (nth (forBody (nth lb 6)) 3) = tb)
   (N : News h₀ L s.heap ((I, oI) :: (Dl, ol) :: (H, PySem.W.listOf (List.toArray hvs) ch) :: snap s.heap (foot4 wl rw el rs ex P R))) (S : St4 w h₀ L wl rw el rs ex xs P R sp s.heap) (G : Good P R n) (hi : i < 4) (x1 : StrsAre hvs hs) (p1 : hs.Perm ((P i).E.map (·.1)))
   (k : ∀ h' tk', Fr h₀ L h' (fun y => if y = Str.ofString "name" then some (.str x tx) else if y = Str.ofString "here" then some (.ref H) else if y = Str.ofString "place" then some (.int (i : Int) tp) else if y = Str.ofString "well" then some (.ref wl) else if y = Str.ofString "envs" then some (.ref el) else if y = Str.ofString "rows" then some (.ref rs) else m y) → News h₀ L h' ((I, oI) :: (Dl, ol) :: (H, PySem.W.listOf (List.toArray hvs) ch) :: snap s.heap (foot4 wl rw el rs ex P R)) → Q9 .next { s with heap := h', toks := tk' })
   : wpAny (model PR w) (ktrTop dp un gd (Str.ofString "law") cs L a ccd [] []) (execs tb (envOf (Str.ofString "law") cs L a ccd)) Q9 E s := by
  refine lit_use hb hc (by k_is) ?_
  intro q1 q2
  subst q2
  subst q1
  simp only [nth_0, nth_s, forBody_for] at htb
  subst htb
  clear hb hc
  k_steps
  all_goals
    try dsimp only
    rename News _ _ _ _ => n9
    rename Fr _ _ _ _ => f9
    exact k _ _ f9 n9
theorem map6 {M : Str → Option Value} {z z1 z2 z3 z4 z5 : Str} {v v1 v2 v3 v4 v5 : Value} (h1 : M z1 = some v1) (h2 : M z2 = some v2) (h3 : M z3 = some v3) (h4 : M z4 = some v4) (h5 : M z5 = some v5) : (fun y => if y = z then some v else M y) = fun y => if y = z then some v else if y = z1 then some v1 else if y = z2 then some v2 else if y = z3 then some v3 else if y = z4 then some v4 else if y = z5 then some v5 else M y := by
  have e := map3 h3 h4 h5
  funext y
  split
  · rfl
  · by_cases q1 : y = z1
    · simp only [if_pos q1]; rw [q1, h1]
    · simp only [if_neg q1]
      by_cases q2 : y = z2
      · simp only [if_pos q2]; rw [q2, h2]
      · simp only [if_neg q2]; exact congrFun e y
set_option maxRecDepth 100000 in
set_option maxHeartbeats 8000000 in
theorem fin_3
   (B : Below A₀ base [] h₀) (F : Fr h₀ L s.heap (fun y => if y = Str.ofString "here" then some (.ref H) else if y = Str.ofString "place" then some (.int (i : Int) tp) else if y = Str.ofString "well" then some (.ref wl) else if y = Str.ofString "envs" then some (.ref el) else if y = Str.ofString "rows" then some (.ref rs) else m y)) (X : (hd.heap_39 w.params).In h₀) (T : Top VW LO mean mg mb h₀) (hb : bodyOf (hd.heap_39 w.params) 188 = lb) (hc : scopeOf (hd.heap_39 w.params) 188 = cs) (hdp : dp ≤ 310) (hun : un ≤ 20) (hE : PassesOwn (model PR w) (ktrTop dp un gd (Str.ofString "law") cs L a ccd [] []) (envOf (Str.ofString "law") cs L a ccd) E)
   (hst : nth (forBody (nth lb 6)) 3 = st)
   (N : News h₀ L s.heap ((H, PySem.W.listOf (List.toArray hvs) ch) :: snap s.heap (foot4 wl rw el rs ex P R))) (S : St4 w h₀ L wl rw el rs ex xs P R sp s.heap) (G : Good P R n) (hi : i < 4) (x1 : StrsAre hvs hs) (p1 : hs.Perm ((P i).E.map (·.1)))
   (k : ∀ h' tk' m', Fr h₀ L h' m' → St4 w h₀ L wl rw el rs ex xs P R sp h' → m' (Str.ofString "well") = some (.ref wl) → m' (Str.ofString "envs") = some (.ref el) → m' (Str.ofString "rows") = some (.ref rs) → Q9 .next { s with heap := h', toks := tk' })
   : wpAny (model PR w) (ktrTop dp un gd (Str.ofString "law") cs L a ccd [] []) (exec st (envOf (Str.ofString "law") cs L a ccd)) Q9 E s := by
  have hb0 := hb
  have hc0 := hc
  refine lit_use hb hc (by k_is) ?_
  intro q1 q2
  subst q2
  subst q1
  simp only [nth_0, nth_s, forBody_for] at hst
  subst hst
  clear hb hc
  k_steps
  unfold StopN
  try dsimp only
  rename News _ _ _ _ => n9
  rename Fr _ _ _ _ => f9
  have zD := n9 _ (.head _)
  have zH := n9 (H, PySem.W.listOf (List.toArray hvs) ch) (.tail _ (.head _))
  have S8 := St4.at S n9 (fun _ h => .tail _ (.tail _ h))
  rename_i lD hqD lqD
  obtain ⟨oD, eoD⟩ : ∃ o, hqD.get? lD = some o := ⟨_, zD.1⟩
  refine each_list (fun kk F h M => F = lD :: H :: foot4 wl rw el rs ex P R ∧ h.get? lD = some oD ∧ h.get? H = some (PySem.W.listOf (List.toArray hvs) ch) ∧ St4 w h₀ L wl rw el rs ex xs P R sp h ∧ M (Str.ofString "here") = some (.ref H) ∧ M (Str.ofString "place") = some (.int (i : Int) tp) ∧ M (Str.ofString "well") = some (.ref wl) ∧ M (Str.ofString "envs") = some (.ref el) ∧ M (Str.ofString "rows") = some (.ref rs)) (lD :: H :: foot4 wl rw el rs ex P R) ?keep ?off ?th rfl ⟨_, zD.1, rfl, _, rfl⟩ zD.2.1 zD.2.2 f9 ⟨rfl, eoD, zH.1, S8, rfl, rfl, rfl, rfl, rfl⟩ ?turn ?done
  case keep =>
    intro kk F h h' M a hk
    rw [a.1] at hk
    exact ⟨a.1, hk _ (.head _) _ a.2.1, hk _ (.tail _ (.head _)) _ a.2.2.1, a.2.2.2.1.keep fun b hb => hk b (.tail _ (.tail _ hb)), a.2.2.2.2⟩
  case off =>
    intro kk F h M a b hb
    rw [a.1] at hb
    rcases List.mem_cons.mp hb with e | hb
    · rw [e]; exact zD.2
    rcases List.mem_cons.mp hb with e | hb
    · rw [e]; exact zH.2
    · exact a.2.2.2.1.off b hb
  case th =>
    intro kk F h M a b hb
    rw [a.1] at hb
    rcases List.mem_cons.mp hb with e | hb
    · rw [e]; exact ⟨_, a.2.1⟩
    rcases List.mem_cons.mp hb with e | hb
    · rw [e]; exact ⟨_, a.2.2.1⟩
    · exact a.2.2.2.1.there b hb
  case turn =>
    intro kk v F₁ M h2 tk2 I oI ol hv a hIF eI eol hIL hIl hI0 Fr₁
    refine (strs_at (.cons _ _ (.cons _ _ (.cons _ _ (.cons _ _ (.cons _ _ .nil))))) (show ([_, _, _, _, _] : List Value)[kk]? = some v by simpa using hv)).elim fun y hy => hy.elim fun t ht => ?_
    rw [ht.1, map6 a.2.2.2.2.1 a.2.2.2.2.2.1 a.2.2.2.2.2.2.1 a.2.2.2.2.2.2.2.1 a.2.2.2.2.2.2.2.2] at Fr₁
    refine fin_turn B Fr₁ X T hb0 hc0 hdp hun rfl (nc ⟨eI, hIL, hI0⟩ (nc ⟨a.2.1, zD.2⟩ (nc ⟨a.2.2.1, zH.2⟩ a.2.2.2.1.news))) a.2.2.2.1 G hi x1 p1 fun h7 tk7 f7 n7 => ?_
    have g1 := (n7 _ (.head _)).1
    have g2 := (n7 _ (.tail _ (.head _))).1
    have g3 := (n7 _ (.tail _ (.tail _ (.head _)))).1
    have S7 := St4.at a.2.2.2.1 n7 (fun _ h => .tail _ (.tail _ (.tail _ h)))
    exact ⟨_, _, _, _, rfl, f7, ⟨rfl, g2, g3, S7, rfl, rfl, rfl, rfl, rfl⟩, a.1 ▸ hIF, g1, fun p hp => by rw [← Option.some.inj hp]; exact g2.trans (a.2.1.symm.trans eol)⟩
  case done =>
    intro h' tk' m' F' a Fr'
    exact k _ _ _ Fr' a.2.2.2.1 a.2.2.2.2.2.2.1 a.2.2.2.2.2.2.2.1 a.2.2.2.2.2.2.2.2
theorem fin_body
   (B : Below A₀ base [] h₀) (F : Fr h₀ L s.heap (fun y => if y = Str.ofString "place" then some (.int (i : Int) tp) else if y = Str.ofString "well" then some (.ref wl) else if y = Str.ofString "envs" then some (.ref el) else if y = Str.ofString "rows" then some (.ref rs) else m y)) (X : (hd.heap_39 w.params).In h₀) (T : Top VW LO mean mg mb h₀) (hb : bodyOf (hd.heap_39 w.params) 188 = lb) (hc : scopeOf (hd.heap_39 w.params) 188 = cs) (hdp : dp ≤ 310) (hun : un ≤ 20) (hE : PassesOwn (model PR w) (ktrTop dp un gd (Str.ofString "law") cs L a ccd [] []) (envOf (Str.ofString "law") cs L a ccd) E)
   (htb : forBody (nth lb 6) = tb)
   (S : St4 w h₀ L wl rw el rs ex xs P R sp s.heap) (G : Good P R n) (hi : i < 4)
   (k : ∀ h' tk' m', Fr h₀ L h' m' → St4 w h₀ L wl rw el rs ex xs P R sp h' → m' (Str.ofString "well") = some (.ref wl) → m' (Str.ofString "envs") = some (.ref el) → m' (Str.ofString "rows") = some (.ref rs) → Q9 .next { s with heap := h', toks := tk' })
   : wpAny (model PR w) (ktrTop dp un gd (Str.ofString "law") cs L a ccd [] []) (execs tb (envOf (Str.ofString "law") cs L a ccd)) Q9 E s := by
  have hb0 := hb
  have hc0 := hc
  refine lit_use hb hc (by k_is) ?_
  intro q1 q2
  subst q2
  subst q1
  simp only [nth_0, nth_s, forBody_for] at htb
  subst htb
  refine cut_cons fun Q1 n1 r1 => ?_
  refine fin_0 B F X T hb0 hc0 hdp hun rfl S G hi fun h1 tk1 H hvs hs c F1 N1 S1 x1 p1 s1 => n1 _ ?_
  refine cut_cons fun Q2 n2 r2 => ?_
  refine fin_1 B F1 X T hb0 hc0 hdp hun rfl N1 S1 G hi x1 p1 s1 fun h2 tk2 F2 N2 S2 => n2 _ ?_
  refine cut_cons fun Q3 n3 r3 => ?_
  refine fin_2 B F2 X T hb0 hc0 hdp hun rfl N2 S2 G hi x1 p1 s1 fun h3 tk3 F3 N3 S3 => n3 _ ?_
  refine cut_cons fun Q4 n4 r4 => ?_
  refine fin_3 B F3 X T hb0 hc0 hdp hun hE rfl N3 S3 G hi x1 p1 fun h4 tk4 m4 F4 S4 e1 e2 e3 => n4 _ ?_
  exact wpAny_execs_nil (k _ _ _ F4 S4 e1 e2 e3)
end
end
section
open PySem PySem.W PySem.Calls PyProof.Rows PyProof.V PySem.W.X
set_option linter.unusedVariables false
theorem said_Places_1 : True := by
  k_with_none
  (k_with "m binaryOp Add str str" => (k_here; (with_reducible show wpAny _ _ (binaryOp Operator.Add (Value.str _ _) (Value.str _ _)) _ _ _); (refine' PyProof.Rows.add_str ?hh ?hsz; (case hsz => (have e1 := litA; have e2 := litB; have e3 := sz_line; (try rw [StrLaws.length_append]); omega)); intro t9 k9)))
  (k_with "m k_room" => first | k_dflt exact room_lt (k := 1) hdp rfl | k_dflt exact room_lt (k := 2) hdp rfl | k_dflt exact room_lt (k := 3) hdp rfl | k_dflt exact room_lt (k := 4) hdp rfl | k_dflt exact room_lt (k := 0) hdp rfl | decide | ((try simp only [depth_mark, depth_under_make, depth_under_kw, depth_in1, depth_deeper, depth_caller]); (try dsimp only [ktrTop]); (show (_ : Nat) < 1000); omega))
  (k_with "m k_units" => first | k_dflt exact unit_lt (k := 0) hun rfl | k_dflt exact unit_lt (k := 1) hun rfl | k_dflt exact unit_lt (k := 2) hun rfl | exact Nat.le_of_ble_eq_true rfl | ((try simp only [units_in1, units_deeper, Around.mark_units, units_caller]); (try dsimp only [ktrTop]); (show (_ : Nat) < 9900); omega))
  (k_with "m exec Raise some none" => (k_here; k_dflt (refine' raise_own ?hh ?_; (case hh => exact rfl))))
  (k_with "m call ref" => (k_here; (with_reducible show wpAny _ _ (call (Value.ref 44) [Value.str _ _]) _ _ _); (rename Fr _ _ _ _ => mF); k_dflt ((refine mk_K (by k_asm) mF (by k_asm) (by k_asm) (by (show (_ : Nat) ≤ 400; dsimp only; omega)) ?_); intro e dx t h' tk hh tm n F' N' st e1 e2 ne X'; (refine ⟨_, _, _, rfl, (N' _ (List.Mem.head _)).1, X', ?_⟩); (try k_unfold); (try dsimp only); (refine leave_refused (by k_asm) mF e1 e2 F' (N' _ (List.Mem.head _)).1 (N' _ (List.Mem.tail _ (List.Mem.head _))).1 (by first | assumption | exact stays_of (by assumption) mF (by k_asm)) st (by assumption) ?_ (by rfl)); intro h9 R9; (try dsimp only))))
  (k_with "m setItem ref str" => (k_here; k_dflt (refine' setItem_K PyProof.V.same_str (strKind_is _ _ _ _) ?v ?F ?N ?U ?d ?f ?_ ?z; (case F => k_asm); (case N => k_asm); (case U => k_updF); (case d => k_asm); (case f => k_asm); (case z => assumption); (case v => k_flat)); intro h' o' F' N' hd' hf'; (try dsimp only at N'); (try k_sweep)))
  (k_with "m M enter" => (refine wpAny_call ?_; k_dflt (refine' enter ?k1 ?k2 ?k3 ?k4 ?k5 ?kA ?kF ?kK ?k6 ?k7 ?k8 ?k9 ?kB ?_ ?c2 ?c3 ?c4 ?c5; (case kA => exact rfl); (case kF => exact rfl); (case kK => first | assumption | exact rfl); (case k1 => k_asm); (case k2 => k_asm); (case k3 => k_asm); (case k4 => k_asm); (case k5 => k_asm); (case k6 => k_is); (case k7 => k_is); (case k8 => (show (_ : Nat) < 1000; dsimp only; omega)); (case k9 => exact BindsTo.of_eq rfl); (case c5 => decide); (case kB => exact locs rfl); (case c2 => exact rfl); (case c3 => exact rfl); (case c4 => exact rfl); k_whole)))
  (k_with "m delItem ref str" => (k_here; k_dflt (refine' kt_del_K PyProof.V.same_str (strKind_is _ _ _ _) ?F ?N ?U ?d ?f ?l ?_ ?z; (case F => k_asm); (case N => k_asm); (case U => k_updF); (case d => k_asm); (case f => k_asm); (case l => first | with_reducible assumption | rfl); (case z => assumption)); intro h' o' F' N' hd' hf'; try dsimp only at N'))
  (k_with "m M room" => first | k_dflt exact room_le (k := 1) hdp rfl | k_dflt exact room_le (k := 0) hun rfl | k_dflt exact room_le (k := 1) hun rfl | k_dflt exact room_le (k := 2) hdp rfl | k_dflt exact room_le (k := 0) hdp rfl | ((try simp only [depth_mark, depth_under_make, depth_under_kw, depth_in1, depth_deeper, depth_caller, units_in1, units_deeper, Around.mark_units, units_caller]); (try dsimp only [ktrTop]); omega))
  (k_with "m pyIter ref" => (k_here; refine stopN ?_))
  trivial
section
variable {w : World} {mean : ExcName → Option Value} {mg mb : Str → Option Value} {dp un : Nat} {gd : Option (List Code)} {cs : Scope} {a : Addr} {ccd : Value} {A₀ : Around} {base h₀ : Heap} {L : Addr} {m : Str → Option Value} {s : Shared} {Q E : Value → Shared → Prop} {Q9 : Flow → Shared → Prop} {n : Nat} {st : Stmt} {tp : Tok} {hvs : List Value} {hs : List Str} {H : Addr} {ch : Nat}
  {x : Str} {tx : Tok} {v : Int} {tv : Tok} {R : Nat → RP} {P : Nat → EP} {wl rw el rs : Addr} {ex : List (Addr × Obj)} {xs : List Int} {sp : Int} {i : Nat} {tb : List Stmt} {lb : List Stmt} {r1 l1 e1 e2 e3 : Addr} {x1 x2 x3 : Str} {v1 v2 v3 : Int} {b1 b2 b3 c : Bool}
set_option maxRecDepth 100000 in
set_option maxHeartbeats 8000000 in
theorem places_spec
   (B : Below A₀ base [] h₀) (F : Fr h₀ L s.heap (fun y => if y = Str.ofString "well" then some (.ref wl) else if y = Str.ofString "envs" then some (.ref el) else if y = Str.ofString "rows" then some (.ref rs) else m y)) (X : (hd.heap_39 w.params).In h₀) (T : Top VW LO mean mg mb h₀) (hb : bodyOf (hd.heap_39 w.params) 188 = lb) (hc : scopeOf (hd.heap_39 w.params) 188 = cs) (hdp : dp ≤ 310) (hun : un ≤ 20) (hE : PassesOwn (model PR w) (ktrTop dp un gd (Str.ofString "law") cs L a ccd [] []) (envOf (Str.ofString "law") cs L a ccd) E)
   (hst : nth lb 6 = st)
   (S : St4 w h₀ L wl rw el rs [] xs P R sp s.heap) (G : Good P R n)
   (k : ∀ h' tk' m', Fr h₀ L h' m' → Q9 .next { s with heap := h', toks := tk' })
   : wpAny (model PR w) (ktrTop dp un gd (Str.ofString "law") cs L a ccd [] []) (exec st (envOf (Str.ofString "law") cs L a ccd)) Q9 E s := by
  have hb0 := hb
  have hc0 := hc
  refine lit_use hb hc (by k_is) ?_
  intro q1 q2
  subst q2
  subst q1
  simp only [nth_0, nth_s] at hst
  subst hst
  refine For_invVF F rfl rfl ?_ (hE := hE)
  have N := S.news
  clear hb hc
  k_steps
  unfold StopN
  try dsimp only
  rename News _ _ _ _ => n9
  rename Fr _ _ _ _ => f9
  rename IsRange _ _ _ _ _ _ _ _ => hr
  have S8 := St4.at S n9 (fun _ h => h)
  refine each_range (n := 4) (fun j Fp h M => Fp = foot4 wl rw el rs [] P R ∧ St4 w h₀ L wl rw el rs [] xs P R sp h ∧ M (Str.ofString "well") = some (.ref wl) ∧ M (Str.ofString "envs") = some (.ref el) ∧ M (Str.ofString "rows") = some (.ref rs)) (foot4 wl rw el rs [] P R)
    (fun j F h h' M hJ hk => by obtain ⟨rfl, c, d⟩ := hJ; exact ⟨rfl, c.keep hk, d⟩) (fun j F h M hJ => by obtain ⟨rfl, c, d⟩ := hJ; exact c.off) (fun j F h M hJ => by obtain ⟨rfl, c, d⟩ := hJ; exact c.there) rfl hr (by decide) (by decide) f9 ⟨rfl, S8, rfl, rfl, rfl⟩ ?_ ?_
  · intro j t F₁ M h tk I oI hj hJ hIF eI hIL hI0 Fr₁
    rw [map4 hJ.2.2.1 hJ.2.2.2.1 hJ.2.2.2.2, Int.zero_add] at Fr₁
    rw [hJ.1] at hIF
    refine fin_body B Fr₁ X T hb0 hc0 hdp hun hE rfl (hJ.2.1.addX hIF eI hIL hI0) G hj fun h7 tk7 m7 F7 S7 e1 e2 e3 => ?_
    exact ⟨h7, tk7, m7, _, rfl, F7, ⟨rfl, S7.dropX, e1, e2, e3⟩, hIF, S7.ext _ (.head _), fun p hp => nomatch hp⟩
  · intro h' tk m' F' hJ Fr'
    exact k _ _ _ Fr'
set_option maxRecDepth 100000 in
set_option maxHeartbeats 8000000 in
theorem law_tail
   (B : Below A₀ base [] h₀) (F : Fr h₀ L s.heap (fun y => if y = Str.ofString "well" then some (.ref wl) else if y = Str.ofString "envs" then some (.ref el) else if y = Str.ofString "rows" then some (.ref rs) else m y)) (X : (hd.heap_39 w.params).In h₀) (T : Top VW LO mean mg mb h₀) (hb : bodyOf (hd.heap_39 w.params) 188 = lb) (hc : scopeOf (hd.heap_39 w.params) 188 = cs) (hdp : dp ≤ 310) (hun : un ≤ 20) (XB : (hd.heap_39 w.params).In base) (TB : Top VW LO mean mg mb base) (hE : PassesOwn (model PR w) (ktrTop dp un gd (Str.ofString "law") cs L a ccd [] []) (envOf (Str.ofString "law") cs L a ccd) E)
   (hst : lb.drop 5 = tb)
   (S : St4 w h₀ L wl rw el rs [] xs P R sp s.heap) (G : Good P R n) (hsp : sp < 100) (hn : n ≤ 100)
   (k : ∀ h' tk' m', Fr h₀ L h' m' → Q9 (.ret (.bool true)) { s with heap := h', toks := tk' })
   : wpAny (model PR w) (ktrTop dp un gd (Str.ofString "law") cs L a ccd [] []) (execs tb (envOf (Str.ofString "law") cs L a ccd)) Q9 E s := by
  have hb0 := hb
  have hc0 := hc
  refine lit_use hb hc (by k_is) ?_
  intro q1 q2
  subst q2
  subst q1
  simp only [List.drop_succ_cons, List.drop_zero] at hst
  subst hst
  refine cut_cons fun Q1 n1 r1 => ?_
  refine deeds_spec B F X T hb0 hc0 hdp hun XB TB hE rfl S G hsp hn fun h1 tk1 m1 P1 R1 sp1 n1' S1 G1 F1 e1 e2 e3 => n1 _ ?_
  rw [map3 e1 e2 e3] at F1
  refine cut_cons fun Q2 n2 r2 => ?_
  refine places_spec B F1 X T hb0 hc0 hdp hun hE rfl S1 G1 fun h2 tk2 m2 F2 => n2 _ ?_
  have N2 : News h₀ L h2 [] := News.nil
  clear S S1 F F1 hb hc hb0 hc0
  k_steps
  all_goals try dsimp only
  all_goals exact k _ _ _ F2
end
end
section
open PySem PySem.W PySem.Calls PyProof.Rows PyProof.V PySem.W.X
set_option linter.unusedVariables false
theorem said_New_1 : True := by
  k_with_none
  (k_with "m binaryOp Add str str" => (k_here; (with_reducible show wpAny _ _ (binaryOp Operator.Add (Value.str _ _) (Value.str _ _)) _ _ _); (refine' PyProof.Rows.add_str ?hh ?hsz; (case hsz => (have e1 := litA; have e2 := litB; have e3 := sz_line; (try rw [StrLaws.length_append]); omega)); intro t9 k9)))
  (k_with "m k_room" => first | k_dflt exact room_lt (k := 1) hdp rfl | k_dflt exact room_lt (k := 2) hdp rfl | k_dflt exact room_lt (k := 3) hdp rfl | k_dflt exact room_lt (k := 4) hdp rfl | k_dflt exact room_lt (k := 0) hdp rfl | decide | ((try simp only [depth_mark, depth_under_make, depth_under_kw, depth_in1, depth_deeper, depth_caller]); (try dsimp only [ktrTop]); (show (_ : Nat) < 1000); omega))
  (k_with "m k_units" => first | k_dflt exact unit_lt (k := 0) hun rfl | k_dflt exact unit_lt (k := 1) hun rfl | k_dflt exact unit_lt (k := 2) hun rfl | exact Nat.le_of_ble_eq_true rfl | ((try simp only [units_in1, units_deeper, Around.mark_units, units_caller]); (try dsimp only [ktrTop]); (show (_ : Nat) < 9900); omega))
  (k_with "m exec Raise some none" => (k_here; k_dflt (refine' raise_own ?hh ?_; (case hh => exact rfl))))
  (k_with "m call ref" => (k_here; (with_reducible show wpAny _ _ (call (Value.ref 44) [Value.str _ _]) _ _ _); (rename Fr _ _ _ _ => mF); k_dflt ((refine mk_K (by k_asm) mF (by k_asm) (by k_asm) (by (show (_ : Nat) ≤ 400; dsimp only; omega)) ?_); intro e dx t h' tk hh tm n F' N' st e1 e2 ne X'; (refine ⟨_, _, _, rfl, (N' _ (List.Mem.head _)).1, X', ?_⟩); (try k_unfold); (try dsimp only); (refine leave_refused (by k_asm) mF e1 e2 F' (N' _ (List.Mem.head _)).1 (N' _ (List.Mem.tail _ (List.Mem.head _))).1 (by first | assumption | exact stays_of (by assumption) mF (by k_asm)) st (by assumption) ?_ (by rfl)); intro h9 R9; (try dsimp only))))
  (k_with "m setItem ref str" => (k_here; k_dflt (refine' setItem_K PyProof.V.same_str (strKind_is _ _ _ _) ?v ?F ?N ?U ?d ?f ?_ ?z; (case F => k_asm); (case N => k_asm); (case U => k_updF); (case d => k_asm); (case f => k_asm); (case z => assumption); (case v => k_flat)); intro h' o' F' N' hd' hf'; (try dsimp only at N'); (try k_sweep)))
  (k_with "m M enter" => (refine wpAny_call ?_; k_dflt (refine' enter ?k1 ?k2 ?k3 ?k4 ?k5 ?kA ?kF ?kK ?k6 ?k7 ?k8 ?k9 ?kB ?_ ?c2 ?c3 ?c4 ?c5; (case kA => exact rfl); (case kF => exact rfl); (case kK => first | assumption | exact rfl); (case k1 => k_asm); (case k2 => k_asm); (case k3 => k_asm); (case k4 => k_asm); (case k5 => k_asm); (case k6 => k_is); (case k7 => k_is); (case k8 => (show (_ : Nat) < 1000; dsimp only; omega)); (case k9 => exact BindsTo.of_eq rfl); (case c5 => decide); (case kB => exact locs rfl); (case c2 => exact rfl); (case c3 => exact rfl); (case c4 => exact rfl); k_whole)))
  (k_with "m delItem ref str" => (k_here; k_dflt (refine' kt_del_K PyProof.V.same_str (strKind_is _ _ _ _) ?F ?N ?U ?d ?f ?l ?_ ?z; (case F => k_asm); (case N => k_asm); (case U => k_updF); (case d => k_asm); (case f => k_asm); (case l => first | with_reducible assumption | rfl); (case z => assumption)); intro h' o' F' N' hd' hf'; try dsimp only at N'))
  (k_with "m M room" => first | k_dflt exact room_le (k := 1) hdp rfl | k_dflt exact room_le (k := 0) hun rfl | k_dflt exact room_le (k := 1) hun rfl | k_dflt exact room_le (k := 2) hdp rfl | k_dflt exact room_le (k := 0) hdp rfl | ((try simp only [depth_mark, depth_under_make, depth_under_kw, depth_in1, depth_deeper, depth_caller, units_in1, units_deeper, Around.mark_units, units_caller]); (try dsimp only [ktrTop]); omega))
  trivial
section
variable {w : World} {mean : ExcName → Option Value} {mg mb : Str → Option Value} {dp un : Nat} {gd : Option (List Code)} {cs : Scope} {a : Addr} {ccd : Value} {A₀ : Around} {base h₀ : Heap} {L : Addr} {m : Str → Option Value} {s : Shared} {Q E : Value → Shared → Prop} {Q9 : Flow → Shared → Prop} {n : Nat} {st : Stmt} {tp : Tok} {hvs : List Value} {hs : List Str} {H : Addr} {ch : Nat}
  {x : Str} {tx : Tok} {v : Int} {tv : Tok} {R : Nat → RP} {P : Nat → EP} {wl rw el rs : Addr} {ex : List (Addr × Obj)} {xs : List Int} {sp : Int} {i : Nat} {par : Value} {fg : Int} {tf : Tok} {tl : List (Addr × Obj)} {tb : List Stmt} {lb : List Stmt} {r1 l1 e1 e2 e3 : Addr} {x1 x2 x3 : Str} {v1 v2 v3 : Int} {b1 b2 b3 c : Bool}
set_option maxRecDepth 100000 in
set_option maxHeartbeats 8000000 in
theorem env_new
   (B : Below A₀ base [] h₀) (F : Fr h₀ L s.heap m) (X : (hd.heap_39 w.params).In h₀) (T : Top VW LO mean mg mb h₀) (hb : bodyOf (hd.heap_39 w.params) 188 = lb) (hc : scopeOf (hd.heap_39 w.params) 188 = cs) (hdp : dp ≤ 310) (hun : un ≤ 20)
   (N : News h₀ L s.heap tl)
   (k : ∀ h' tk' e ed f l oF oL h1 h2 h3 h4 h5 h6 h7 t1 t2 t3 t4 t5 t6 t7 tkk, Fr h₀ L h' m → News h₀ L h' ((l, oL) :: (f, oF) :: (e, instObj 127 ed) :: (ed, envD ⟨h1, h2, h3, h4, h5, h6, h7, t1, t2, t3, t4, t5, t6, t7, tkk, tf, 7⟩ fg par f false l) :: tl) → (∀ p ∈ tl, @LT.lt Nat _ p.1 ed) → @LT.lt Nat _ ed e → (@LT.lt Nat _ e f ∧ @LT.lt Nat _ ed f ∧ AllLt f tl) → (@LT.lt Nat _ f l ∧ @LT.lt Nat _ e l ∧ @LT.lt Nat _ ed l ∧ AllLt l tl) →
     (f == sysModules) = false → (l == sysModules) = false → oF.IsDictOf (strKind PR w) [] → oL.IsDictOf (strKind PR w) [] → Q (.ref e) { s with heap := h', toks := tk' })
   : wpAny (model PR w) (ktrTop dp un gd (Str.ofString "law") cs L a ccd [] []) (call (.ref 127) [.int fg tf, par]) Q E s := by
  refine lit_use hb hc (by k_is) ?_
  intro q1 q2
  subst q2
  clear q1 hb hc
  k_steps
  all_goals try dsimp only
  rename News h₀ L _ (_ :: _) => kN9
  rename Fr h₀ L _ m => kF9
  exact k _ _ _ _ _ _ _ _ _ _ _ _ _ _ _ _ _ _ _ _ _ _ _ kF9 kN9 (by assumption) (by assumption) (by assumption) (by assumption) (by assumption) (by assumption) (by assumption) (by assumption)
end
end
section
open PySem PySem.W PySem.Calls PyProof.Rows PyProof.V PySem.W.X
set_option linter.unusedVariables false
theorem said_InitA_1 : True := by
  k_with_none
  (k_with "m binaryOp Add str str" => (k_here; (with_reducible show wpAny _ _ (binaryOp Operator.Add (Value.str _ _) (Value.str _ _)) _ _ _); (refine' PyProof.Rows.add_str ?hh ?hsz; (case hsz => (have e1 := litA; have e2 := litB; have e3 := sz_line; (try rw [StrLaws.length_append]); omega)); intro t9 k9)))
  (k_with "m k_room" => first | k_dflt exact room_lt (k := 1) hdp rfl | k_dflt exact room_lt (k := 2) hdp rfl | k_dflt exact room_lt (k := 3) hdp rfl | k_dflt exact room_lt (k := 4) hdp rfl | k_dflt exact room_lt (k := 0) hdp rfl | decide | ((try simp only [depth_mark, depth_under_make, depth_under_kw, depth_in1, depth_deeper, depth_caller]); (try dsimp only [ktrTop]); (show (_ : Nat) < 1000); omega))
  (k_with "m k_units" => first | k_dflt exact unit_lt (k := 0) hun rfl | k_dflt exact unit_lt (k := 1) hun rfl | k_dflt exact unit_lt (k := 2) hun rfl | exact Nat.le_of_ble_eq_true rfl | ((try simp only [units_in1, units_deeper, Around.mark_units, units_caller]); (try dsimp only [ktrTop]); (show (_ : Nat) < 9900); omega))
  (k_with "m exec Raise some none" => (k_here; k_dflt (refine' raise_own ?hh ?_; (case hh => exact rfl))))
  (k_with "m call ref" => (k_here; (with_reducible show wpAny _ _ (call (Value.ref 44) [Value.str _ _]) _ _ _); (rename Fr _ _ _ _ => mF); k_dflt ((refine mk_K (by k_asm) mF (by k_asm) (by k_asm) (by (show (_ : Nat) ≤ 400; dsimp only; omega)) ?_); intro e dx t h' tk hh tm n F' N' st e1 e2 ne X'; (refine ⟨_, _, _, rfl, (N' _ (List.Mem.head _)).1, X', ?_⟩); (try k_unfold); (try dsimp only); (refine leave_refused (by k_asm) mF e1 e2 F' (N' _ (List.Mem.head _)).1 (N' _ (List.Mem.tail _ (List.Mem.head _))).1 (by first | assumption | exact stays_of (by assumption) mF (by k_asm)) st (by assumption) ?_ (by rfl)); intro h9 R9; (try dsimp only))))
  (k_with "m setItem ref str" => (k_here; k_dflt (refine' setItem_K PyProof.V.same_str (strKind_is _ _ _ _) ?v ?F ?N ?U ?d ?f ?_ ?z; (case F => k_asm); (case N => k_asm); (case U => k_updF); (case d => k_asm); (case f => k_asm); (case z => assumption); (case v => k_flat)); intro h' o' F' N' hd' hf'; (try dsimp only at N'); (try k_sweep)))
  (k_with "m M enter" => (refine wpAny_call ?_; k_dflt (refine' enter ?k1 ?k2 ?k3 ?k4 ?k5 ?kA ?kF ?kK ?k6 ?k7 ?k8 ?k9 ?kB ?_ ?c2 ?c3 ?c4 ?c5; (case kA => exact rfl); (case kF => exact rfl); (case kK => first | assumption | exact rfl); (case k1 => k_asm); (case k2 => k_asm); (case k3 => k_asm); (case k4 => k_asm); (case k5 => k_asm); (case k6 => k_is); (case k7 => k_is); (case k8 => (show (_ : Nat) < 1000; dsimp only; omega)); (case k9 => exact BindsTo.of_eq rfl); (case c5 => decide); (case kB => exact locs rfl); (case c2 => exact rfl); (case c3 => exact rfl); (case c4 => exact rfl); k_whole)))
  (k_with "m delItem ref str" => (k_here; k_dflt (refine' kt_del_K PyProof.V.same_str (strKind_is _ _ _ _) ?F ?N ?U ?d ?f ?l ?_ ?z; (case F => k_asm); (case N => k_asm); (case U => k_updF); (case d => k_asm); (case f => k_asm); (case l => first | with_reducible assumption | rfl); (case z => assumption)); intro h' o' F' N' hd' hf'; try dsimp only at N'))
  (k_with "m M room" => first | k_dflt exact room_le (k := 1) hdp rfl | k_dflt exact room_le (k := 0) hun rfl | k_dflt exact room_le (k := 1) hun rfl | k_dflt exact room_le (k := 2) hdp rfl | k_dflt exact room_le (k := 0) hdp rfl | ((try simp only [depth_mark, depth_under_make, depth_under_kw, depth_in1, depth_deeper, depth_caller, units_in1, units_deeper, Around.mark_units, units_caller]); (try dsimp only [ktrTop]); omega))
  trivial
structure New4 (w : World) (p : EP) (oE oD oF oL : Obj) (fg : Int) (par : Value) : Prop where
  inst : oE = instObj 127 p.ed
  idict : ∃ eD : ED, oD = envD eD p.num p.par p.f p.cl p.l
  frame : oF.IsDictOf (strKind PR w) []
  locks : oL.IsDictOf (strKind PR w) []
  lowf : (p.f == sysModules) = false
  lowl : (p.l == sysModules) = false
  num : p.num = fg
  par : p.par = par
  E : p.E = []
  cl : p.cl = false
  k : p.k = 2
section
variable {w : World} {mean : ExcName → Option Value} {mg mb : Str → Option Value} {dp un : Nat} {gd : Option (List Code)} {cs : Scope} {a : Addr} {ccd : Value} {A₀ : Around} {base h₀ : Heap} {L : Addr} {m : Str → Option Value} {s : Shared} {Q E : Value → Shared → Prop} {Q9 : Flow → Shared → Prop} {n : Nat} {st : Stmt} {tp : Tok} {hvs : List Value} {hs : List Str} {H : Addr} {ch : Nat}
  {x : Str} {tx : Tok} {v : Int} {tv : Tok} {R : Nat → RP} {P : Nat → EP} {wl rw el rs : Addr} {ex : List (Addr × Obj)} {xs : List Int} {sp : Int} {i : Nat} {par : Value} {fg : Int} {tf : Tok} {tl : List (Addr × Obj)} {tb : List Stmt} {lb : List Stmt} {r1 l1 e1 e2 e3 : Addr} {x1 x2 x3 : Str} {v1 v2 v3 : Int} {b1 b2 b3 c : Bool}
theorem env_new2
   (B : Below A₀ base [] h₀) (F : Fr h₀ L s.heap m) (X : (hd.heap_39 w.params).In h₀) (T : Top VW LO mean mg mb h₀) (hb : bodyOf (hd.heap_39 w.params) 188 = lb) (hc : scopeOf (hd.heap_39 w.params) 188 = cs) (hdp : dp ≤ 310) (hun : un ≤ 20)
   (N : News h₀ L s.heap tl)
   (k : ∀ h' tk' p oE oD oF oL, Fr h₀ L h' m → News h₀ L h' ((p.l, oL) :: (p.f, oF) :: (p.e, oE) :: (p.ed, oD) :: tl) → New4 w p oE oD oF oL fg par → (∀ q ∈ tl, @LT.lt Nat _ q.1 p.ed) → @LT.lt Nat _ p.ed p.e → @LT.lt Nat _ p.e p.f → @LT.lt Nat _ p.f p.l → Q (.ref p.e) { s with heap := h', toks := tk' })
   : wpAny (model PR w) (ktrTop dp un gd (Str.ofString "law") cs L a ccd [] []) (call (.ref 127) [.int fg tf, par]) Q E s :=
  env_new B F X T hb hc hdp hun N fun h' tk' e ed f l oF oL h1 h2 h3 h4 h5 h6 h7 t1 t2 t3 t4 t5 t6 t7 tkk F' N' z1 z2 z3 z4 z5 z6 z7 z8 =>
    k h' tk' ⟨e, ed, f, l, fg, par, [], false, 2⟩ _ _ oF oL F' N' ⟨rfl, ⟨⟨h1, h2, h3, h4, h5, h6, h7, t1, t2, t3, t4, t5, t6, t7, tkk, tf, 7⟩, rfl⟩, z7, z8, z5, z6, rfl, rfl, rfl, rfl, rfl⟩ z1 z2 z3.1 z4.1
end
theorem foot_range {p : EP} (z2 : @LT.lt Nat _ p.ed p.e) (z3 : @LT.lt Nat _ p.e p.f) (z4 : @LT.lt Nat _ p.f p.l) : ∀ b ∈ p.foot, @LE.le Nat _ p.ed b ∧ @LE.le Nat _ b p.l := fun b hb => by
  simp only [EP.foot, List.mem_cons, List.not_mem_nil, or_false] at hb
  rcases hb with rfl | rfl | rfl | rfl
  · exact ⟨Nat.le_of_lt z2, Nat.le_of_lt (Nat.lt_trans z3 z4)⟩
  · exact ⟨Nat.le_refl _, Nat.le_of_lt (Nat.lt_trans z2 (Nat.lt_trans z3 z4))⟩
  · exact ⟨Nat.le_of_lt (Nat.lt_trans z2 z3), Nat.le_of_lt z4⟩
  · exact ⟨Nat.le_of_lt (Nat.lt_trans z2 (Nat.lt_trans z3 z4)), Nat.le_refl _⟩
theorem New4.st {w : World} {p : EP} {oE oD oF oL : Obj} {fg : Int} {par : Value} {h : Heap} (y : New4 w p oE oD oF oL fg par) (z2 : @LT.lt Nat _ p.ed p.e) (z3 : @LT.lt Nat _ p.e p.f) (z4 : @LT.lt Nat _ p.f p.l)
    (e1 : h.get? p.e = some oE) (e2 : h.get? p.ed = some oD) (e3 : h.get? p.f = some oF) (e4 : h.get? p.l = some oL) : EnvSt w p h where
  inst := by rw [e1, y.inst]
  idict := by
    obtain ⟨eD, e⟩ := y.idict
    exact ⟨eD, by rw [e2, e]⟩
  frame := ⟨oF, [], e3, y.frame, by rw [y.E]; exact .nil⟩
  locks := ⟨oL, [], [], e4, y.locks, .nil, fun x => by rw [y.E]; exact rfl, Nat.zero_le _⟩
  names := by rw [y.E]; exact .nil
  size := by rw [y.E]; exact Nat.zero_le _
  lowf := y.lowf
  lowl := y.lowl
  apart := by
    simp only [EP.foot, List.nodup_cons, List.mem_cons, List.not_mem_nil, or_false, not_or, List.nodup_nil, and_true, not_false_eq_true]
    have a : ∀ {x y : Addr}, @LT.lt Nat _ x y → x ≠ y := fun h e => Nat.lt_irrefl _ (e ▸ h)
    have b : ∀ {x y : Addr}, @LT.lt Nat _ x y → y ≠ x := fun h e => Nat.lt_irrefl _ (e ▸ h)
    exact ⟨⟨b z2, a z3, a (Nat.lt_trans z3 z4)⟩, ⟨a (Nat.lt_trans z2 z3), a (Nat.lt_trans z2 (Nat.lt_trans z3 z4))⟩, a z4⟩
structure Four (w : World) (h₀ : Heap) (L el : Addr) (P : Nat → EP) (h : Heap) : Prop where
  env : AllSt w P h
  off : Off h₀ L (feet P)
  fresh : ∀ j < 4, (P j).E = [] ∧ (P j).cl = false ∧ (P j).k = 2
  els : ∃ n, h.get? el = some (PySem.W.listOf #[.ref (P 0).e, .ref (P 1).e, .ref (P 2).e, .ref (P 3).e] n)
  above : ∀ b ∈ feet P, @LT.lt Nat _ el b
theorem all2 {φ : Addr → Prop} {a b : Addr} (h1 : φ a) (h2 : φ b) : ∀ x ∈ [a, b], φ x := fun x h => by
  rcases List.mem_cons.mp h with rfl | h
  · exact h1
  · exact List.mem_singleton.mp h ▸ h2
theorem all4 {φ : Addr → Prop} {a b c d : Addr} (h1 : φ a) (h2 : φ b) (h3 : φ c) (h4 : φ d) : ∀ x ∈ [a, b, c, d], φ x := fun x h => by
  rcases List.mem_cons.mp h with rfl | h
  · exact h1
  rcases List.mem_cons.mp h with rfl | h
  · exact h2
  · exact all2 h3 h4 x h
theorem four_all {φ : Nat → Prop} (h0 : φ 0) (h1 : φ 1) (h2 : φ 2) (h3 : φ 3) : ∀ i, i < 4 → φ i := fun i hi => by
  rcases lt4 i hi with rfl | rfl | rfl | rfl
  · exact h0
  · exact h1
  · exact h2
  · exact h3
theorem three_all {φ : Nat → Prop} (h0 : φ 0) (h1 : φ 1) (h2 : φ 2) : ∀ i, i < 3 → φ i := fun i hi => by
  rcases lt3 i hi with rfl | rfl | rfl
  · exact h0
  · exact h1
  · exact h2
theorem apart4 {f : Nat → List Addr} {lo hi : Nat → Nat} (w : ∀ i, i < 4 → ∀ b ∈ f i, lo i ≤ b ∧ b ≤ hi i) (m : ∀ i, i < 4 → lo i ≤ hi i) (o : ∀ i, i < 3 → hi i < lo (i + 1)) :
    ∀ i, i < 4 → ∀ j, j < 4 → i ≠ j → ∀ b ∈ f i, b ∉ f j := by
  have key : ∀ i j, i < j → j < 4 → hi i < lo j := fun i j hij hj => by
    have o0 : hi 0 < lo 1 := o 0 (by omega)
    have o1 : hi 1 < lo 2 := o 1 (by omega)
    have o2 : hi 2 < lo 3 := o 2 (by omega)
    have m1 : lo 1 ≤ hi 1 := m 1 (by omega)
    have m2 : lo 2 ≤ hi 2 := m 2 (by omega)
    have l1 := Nat.lt_of_lt_of_le o0 m1
    have l2 := Nat.lt_of_lt_of_le o1 m2
    rcases lt44 j hj i hij with ⟨rfl, rfl⟩ | ⟨rfl, rfl⟩ | ⟨rfl, rfl⟩ | ⟨rfl, rfl⟩ | ⟨rfl, rfl⟩ | ⟨rfl, rfl⟩
    · exact o0
    · exact Nat.lt_trans l1 o1
    · exact Nat.lt_trans l1 (Nat.lt_trans l2 o2)
    · exact o1
    · exact Nat.lt_trans l2 o2
    · exact o2
  intro i hi' j hj ne b hb hb'
  have x := w i hi' b hb
  have y := w j hj b hb'
  rcases Nat.lt_or_ge i j with q | q
  · exact Nat.lt_irrefl _ (Nat.lt_of_le_of_lt x.2 (Nat.lt_of_lt_of_le (key i j q hj) y.1))
  · exact Nat.lt_irrefl _ (Nat.lt_of_le_of_lt y.2 (Nat.lt_of_lt_of_le (key j i (by omega) hi') x.1))
theorem news_hd {h₀ h : Heap} {L : Addr} {p : Addr × Obj} {r : List (Addr × Obj)} (N : News h₀ L h (p :: r)) : h.get? p.1 = some p.2 ∧ p.1 ≠ L ∧ h₀.get? p.1 = none := N _ (.head _)
theorem news_tl {h₀ h : Heap} {L : Addr} {p : Addr × Obj} {r : List (Addr × Obj)} (N : News h₀ L h (p :: r)) : News h₀ L h r := fun q hq => N q (.tail _ hq)
noncomputable def pick4 {α : Type} (a b c d : α) : Nat → α
  | 0 => a
  | 1 => b
  | 2 => c
  | _ => d
theorem new_foot {w : World} {h₀ h : Heap} {L : Addr} {p : EP} {oE oD oF oL : Obj} {fg : Int} {par : Value} {tl : List (Addr × Obj)} (N : News h₀ L h ((p.l, oL) :: (p.f, oF) :: (p.e, oE) :: (p.ed, oD) :: tl)) (y : New4 w p oE oD oF oL fg par)
    (z2 : @LT.lt Nat _ p.ed p.e) (z3 : @LT.lt Nat _ p.e p.f) (z4 : @LT.lt Nat _ p.f p.l) : EnvSt w p h ∧ Off h₀ L p.foot ∧ News h₀ L h tl :=
  have n1 := news_tl N
  have n2 := news_tl n1
  have n3 := news_tl n2
  ⟨y.st z2 z3 z4 (news_hd n2).1 (news_hd n3).1 (news_hd n1).1 (news_hd N).1, all4 (news_hd n2).2 (news_hd n3).2 (news_hd n1).2 (news_hd N).2, news_tl n3⟩
theorem four_close {w : World} {h₀ h : Heap} {L el wl rw : Addr} {oW oR : Obj} {p0 p1 p2 p3 : EP} {oE0 oD0 oF0 oL0 oE1 oD1 oF1 oL1 oE2 oD2 oF2 oL2 oE3 oD3 oF3 oL3 : Obj} {g0 g1 g2 g3 : Int} {n : Nat} {arr : Array Value}
    (N : News h₀ L h [(p3.l, oL3), (p3.f, oF3), (p3.e, oE3), (p3.ed, oD3), (p2.l, oL2), (p2.f, oF2), (p2.e, oE2), (p2.ed, oD2), (p1.l, oL1), (p1.f, oF1), (p1.e, oE1), (p1.ed, oD1), (p0.l, oL0), (p0.f, oF0), (p0.e, oE0), (p0.ed, oD0), (el, PySem.W.listOf arr n), (wl, oW), (rw, oR)])
    (y0 : New4 w p0 oE0 oD0 oF0 oL0 g0 .none) (y1 : New4 w p1 oE1 oD1 oF1 oL1 g1 (.ref p0.e)) (y2 : New4 w p2 oE2 oD2 oF2 oL2 g2 (.ref p1.e)) (y3 : New4 w p3 oE3 oD3 oF3 oL3 g3 (.ref p2.e)) (q0 : g0 = 0) (q1 : g1 = 1) (q2 : g2 = 2) (q3 : g3 = 3)
    (a2 : @LT.lt Nat _ p0.ed p0.e) (a3 : @LT.lt Nat _ p0.e p0.f) (a4 : @LT.lt Nat _ p0.f p0.l) (b2 : @LT.lt Nat _ p1.ed p1.e) (b3 : @LT.lt Nat _ p1.e p1.f) (b4 : @LT.lt Nat _ p1.f p1.l) (c2 : @LT.lt Nat _ p2.ed p2.e) (c3 : @LT.lt Nat _ p2.e p2.f) (c4 : @LT.lt Nat _ p2.f p2.l) (d2 : @LT.lt Nat _ p3.ed p3.e) (d3 : @LT.lt Nat _ p3.e p3.f) (d4 : @LT.lt Nat _ p3.f p3.l)
    (r0 : @LT.lt Nat _ el p0.ed) (r1 : @LT.lt Nat _ p0.l p1.ed) (r2 : @LT.lt Nat _ p1.l p2.ed) (r3 : @LT.lt Nat _ p2.l p3.ed) (ha : arr = #[.ref p0.e, .ref p1.e, .ref p2.e, .ref p3.e]) :
    ∃ P, Four w h₀ L el P h ∧ h.get? wl = some oW ∧ h.get? rw = some oR := by
  have s3 := new_foot N y3 d2 d3 d4
  have s2 := new_foot s3.2.2 y2 c2 c3 c4
  have s1 := new_foot s2.2.2 y1 b2 b3 b4
  have s0 := new_foot s1.2.2 y0 a2 a3 a4
  have N1 := s0.2.2
  have N2 := news_tl N1
  have e0 := (news_hd N1).1
  have e1 := (news_hd N2).1
  have e2 := (news_hd (news_tl N2)).1
  have wd : ∀ i, i < 4 → ∀ b ∈ (pick4 p0 p1 p2 p3 i).foot, @LE.le Nat _ (pick4 p0 p1 p2 p3 i).ed b ∧ @LE.le Nat _ b (pick4 p0 p1 p2 p3 i).l := four_all (foot_range a2 a3 a4) (foot_range b2 b3 b4) (foot_range c2 c3 c4) (foot_range d2 d3 d4)
  have md : ∀ i, i < 4 → @LE.le Nat _ (pick4 p0 p1 p2 p3 i).ed (pick4 p0 p1 p2 p3 i).l := four_all (Nat.le_of_lt (Nat.lt_trans a2 (Nat.lt_trans a3 a4))) (Nat.le_of_lt (Nat.lt_trans b2 (Nat.lt_trans b3 b4))) (Nat.le_of_lt (Nat.lt_trans c2 (Nat.lt_trans c3 c4))) (Nat.le_of_lt (Nat.lt_trans d2 (Nat.lt_trans d3 d4)))
  have t0 := Nat.lt_of_lt_of_le r0 (md 0 (by decide))
  have t1 := Nat.lt_trans t0 r1
  have t2 := Nat.lt_trans (Nat.lt_of_lt_of_le t1 (md 1 (by decide))) r2
  have t3 := Nat.lt_trans (Nat.lt_of_lt_of_le t2 (md 2 (by decide))) r3
  refine ⟨pick4 p0 p1 p2 p3, ⟨⟨four_all s0.1 s1.1 s2.1 s3.1, four_all (y0.num.trans q0) (y1.num.trans q1) (y2.num.trans q2) (y3.num.trans q3), y0.par, three_all y1.par y2.par y3.par, apart4 (f := fun i => (pick4 p0 p1 p2 p3 i).foot) (lo := fun i => (pick4 p0 p1 p2 p3 i).ed) (hi := fun i => (pick4 p0 p1 p2 p3 i).l) wd md (three_all r1 r2 r3)⟩, fun b hb => ?_,
    four_all ⟨y0.E, y0.cl, y0.k⟩ ⟨y1.E, y1.cl, y1.k⟩ ⟨y2.E, y2.cl, y2.k⟩ ⟨y3.E, y3.cl, y3.k⟩, ⟨n, ?_⟩, fun b hb => ?_⟩, e1, e2⟩
  · obtain ⟨i, hi, hb⟩ := mem_feet.mp hb
    have off : ∀ i, i < 4 → Off h₀ L (pick4 p0 p1 p2 p3 i).foot := four_all s0.2.1 s1.2.1 s2.2.1 s3.2.1
    exact off i hi b hb
  · rw [ha] at e0; exact e0
  · obtain ⟨i, hi, hb⟩ := mem_feet.mp hb
    have up : ∀ i, i < 4 → @LT.lt Nat _ el (pick4 p0 p1 p2 p3 i).ed := four_all r0 t1 t2 t3
    exact Nat.lt_of_lt_of_le (up i hi) (wd i hi b hb).1
theorem map2' {M : Str → Option Value} {z1 z2 : Str} {v1 v2 : Value} (h1 : M z1 = some v1) (h2 : M z2 = some v2) : M = fun y => if y = z1 then some v1 else if y = z2 then some v2 else M y := by
  funext y
  by_cases q1 : y = z1
  · simp only [if_pos q1]; rw [q1, h1]
  · simp only [if_neg q1]
    by_cases q2 : y = z2
    · simp only [if_pos q2]; rw [q2, h2]
    · simp only [if_neg q2]
theorem said_InitA_2 : True := by
  (k_with "m call ref" => (k_here; (with_reducible show wpAny _ _ (call (Value.ref 127) [_, _]) _ _ _); (rename Fr _ _ _ _ => mF); (rename News _ _ _ _ => mN); (rename bodyOf _ _ = _ => mB); (rename scopeOf _ _ = _ => mC); k_dflt (refine' env_new2 ?k1 ?k2 ?k3 ?k4 mB mC ?hdp ?hun ?N ?_; (case k1 => k_asm); (case k2 => exact mF); (case N => exact mN); (case k3 => k_asm); (case k4 => k_asm); (case hdp => walk_at "M room"); (case hun => walk_at "M room"); (intro h' tk' p' oE' oD' oF' oL' F' N' y' z1 z2 z3 z4; clear mF mN; (try k_lt z1); (try k_fold)))))
  trivial
section
variable {w : World} {mean : ExcName → Option Value} {mg mb : Str → Option Value} {dp un : Nat} {gd : Option (List Code)} {cs : Scope} {a : Addr} {ccd : Value} {A₀ : Around} {base h₀ : Heap} {L : Addr} {m : Str → Option Value} {s : Shared} {Q E : Value → Shared → Prop} {Q9 : Flow → Shared → Prop} {n : Nat} {st : Stmt} {tp : Tok} {hvs : List Value} {hs : List Str} {H : Addr} {ch : Nat}
  {x : Str} {tx : Tok} {v : Int} {tv : Tok} {R : Nat → RP} {P : Nat → EP} {wl rw el rs : Addr} {ex : List (Addr × Obj)} {xs : List Int} {sp : Int} {i : Nat} {sc : Addr} {ws : List Value} {xs0 : List Int} {tl : List (Addr × Obj)} {oW oR : Obj} {tb : List Stmt} {lb : List Stmt} {r1 l1 e1 e2 e3 : Addr} {x1 x2 x3 : Str} {v1 v2 v3 : Int} {b1 b2 b3 c : Bool}
set_option maxRecDepth 100000 in
set_option maxHeartbeats 8000000 in
theorem init_0
   (B : Below A₀ base [] h₀) (F : Fr h₀ L s.heap (fun y => List.lookup y [(Str.ofString "script", Value.ref sc)].reverse)) (X : (hd.heap_39 w.params).In h₀) (T : Top VW LO mean mg mb h₀) (hb : bodyOf (hd.heap_39 w.params) 188 = lb) (hc : scopeOf (hd.heap_39 w.params) 188 = cs) (hdp : dp ≤ 310) (hun : un ≤ 20)
   (hst : nth lb 0 = st)
   (hl : h₀.IsList sc (List.toArray ws)) (hI : IntsAre ws xs0) (hlen : xs0.length ≤ 63)
   (k : ∀ h' tk' wl rw vs t u c, Fr h₀ L h' (fun y => if y = Str.ofString "well" then some (.ref wl) else List.lookup y [(Str.ofString "script", Value.ref sc)].reverse) → News h₀ L h' [(wl, PySem.W.listOf #[.int 0 t, .ref rw, .int 0 u] 0), (rw, PySem.W.listOf (List.toArray vs) c)] → IntsAre vs (List.take 40 (xs0 ++ [0])) → @LT.lt Nat _ rw wl → Q9 .next { s with heap := h', toks := tk' })
   : wpAny (model PR w) (ktrTop dp un gd (Str.ofString "law") cs L a ccd [] []) (exec st (envOf (Str.ofString "law") cs L a ccd)) Q9 E s := by
  have hb0 := hb
  have hc0 := hc
  refine lit_use hb hc (by k_is) ?_
  intro q1 q2
  subst q2
  subst q1
  simp only [nth_0, nth_s] at hst
  subst hst
  clear hb hc
  have N : News h₀ L s.heap [] := News.nil
  k_steps
  all_goals try dsimp only
  rename News _ _ _ _ => n9
  rename Fr _ _ _ _ => f9
  exact k _ _ _ _ _ _ _ _ f9 (nc (n9 _ (.head _)) (nc (n9 _ (.tail _ (.head _))) News.nil)) (by assumption) (by omega)
set_option maxRecDepth 100000 in
set_option maxHeartbeats 8000000 in
theorem init_2
   (B : Below A₀ base [] h₀) (F : Fr h₀ L s.heap (fun y => if y = Str.ofString "envs" then some (.ref el) else if y = Str.ofString "well" then some (.ref wl) else m y)) (X : (hd.heap_39 w.params).In h₀) (T : Top VW LO mean mg mb h₀) (hb : bodyOf (hd.heap_39 w.params) 188 = lb) (hc : scopeOf (hd.heap_39 w.params) 188 = cs) (hdp : dp ≤ 310) (hun : un ≤ 20) (hE : PassesOwn (model PR w) (ktrTop dp un gd (Str.ofString "law") cs L a ccd [] []) (envOf (Str.ofString "law") cs L a ccd) E)
   (hst : nth lb 2 = st)
   (N : News h₀ L s.heap [(el, PySem.W.listOf #[] 0), (wl, oW), (rw, oR)]) (d1 : @LT.lt Nat _ wl el) (d2 : @LT.lt Nat _ rw el) (d3 : @Ne Nat wl rw)
   (k : ∀ h' tk' P m', Four w h₀ L el P h' → h'.get? wl = some oW → h'.get? rw = some oR → Fr h₀ L h' m' → m' (Str.ofString "envs") = some (.ref el) → m' (Str.ofString "well") = some (.ref wl) → Q9 .next { s with heap := h', toks := tk' })
   : wpAny (model PR w) (ktrTop dp un gd (Str.ofString "law") cs L a ccd [] []) (exec st (envOf (Str.ofString "law") cs L a ccd)) Q9 E s := by
  have hb0 := hb
  have hc0 := hc
  refine lit_use hb hc (by k_is) ?_
  intro q1 q2
  subst q2
  subst q1
  simp only [nth_0, nth_s] at hst
  subst hst
  clear hb hc
  k_steps
  all_goals try dsimp only
  rename News _ _ _ _ => n9
  rename Fr _ _ _ _ => f9
  obtain ⟨P, H4, g1, g2⟩ := four_close n9 (by assumption) (by assumption) (by assumption) (by assumption) rfl rfl rfl rfl (by assumption) (by assumption) (by assumption) (by assumption) (by assumption) (by assumption) (by assumption) (by assumption) (by assumption) (by assumption) (by assumption) (by assumption) (by omega) (by omega) (by omega) (by omega) rfl
  exact k _ _ P _ H4 g1 g2 f9 rfl rfl
structure RowsNew (h₀ : Heap) (L rs : Addr) (R : Nat → RP) (tl : List (Addr × Obj)) (h : Heap) : Prop where
  rows : AllRows R h
  at_ : ∃ n, h.get? rs = some (rowsOf R n)
  off : Off h₀ L (rs :: rfeet R)
  above : ∀ b ∈ rs :: rfeet R, ∀ p ∈ tl, @LT.lt Nat _ p.1 b
  nrs : rs ∉ rfeet R
  E0 : (R 0).E = [(Str.ofString "b", 900, false), (Str.ofString "z", 901, false)]
  E1 : ∀ j, 1 ≤ j → j < 4 → (R j).E = []
  c : ∀ j < 4, (R j).c = false
  keep : ∀ p ∈ tl, h.get? p.1 = some p.2
noncomputable def R0 (eb ez l0 r0 l1 r1 l2 r2 l3 r3 : Addr) : Nat → RP
  | 0 => ⟨r0, l0, [(eb, (Str.ofString "b", 900, false)), (ez, (Str.ofString "z", 901, false))], false⟩
  | 1 => ⟨r1, l1, [], false⟩
  | 2 => ⟨r2, l2, [], false⟩
  | _ => ⟨r3, l3, [], false⟩
theorem nodup2 {a b : Addr} (h : a ≠ b) : [a, b].Nodup := List.nodup_cons.mpr ⟨fun q => h (List.mem_singleton.mp q), List.nodup_cons.mpr ⟨List.not_mem_nil, List.nodup_nil⟩⟩
theorem nodup4 {a b c d : Addr} (h1 : a ≠ b) (h2 : a ≠ c) (h3 : a ≠ d) (h4 : b ≠ c) (h5 : b ≠ d) (h6 : c ≠ d) : [a, b, c, d].Nodup := by
  simp [h1, h2, h3, h4, h5, h6]
theorem rows_close {h₀ h : Heap} {L eb ez l0 r0 l1 r1 l2 r2 l3 r3 rs : Addr} {tl : List (Addr × Obj)} {n0 n1 n2 n3 n4 n5 n6 n7 n8 n9 n10 : Nat} {ta ua tb ub : Tok}
    (N : News h₀ L h ((rs, PySem.W.listOf #[.ref r0, .ref r1, .ref r2, .ref r3] n0) :: (r3, PySem.W.listOf #[.ref l3, .bool false] n1) :: (l3, PySem.W.listOf #[] n2) :: (r2, PySem.W.listOf #[.ref l2, .bool false] n3) :: (l2, PySem.W.listOf #[] n4) :: (r1, PySem.W.listOf #[.ref l1, .bool false] n5) :: (l1, PySem.W.listOf #[] n6) :: (r0, PySem.W.listOf #[.ref l0, .bool false] n7) :: (l0, PySem.W.listOf #[.ref eb, .ref ez] n8) :: (ez, PySem.W.listOf #[.str (Str.ofString "z") ta, .int 901 ua, .bool false] n9) :: (eb, PySem.W.listOf #[.str (Str.ofString "b") tb, .int 900 ub, .bool false] n10) :: tl))
    (q0 : ∀ p ∈ tl, @LT.lt Nat _ p.1 eb) (q1 : @LT.lt Nat _ eb ez) (q2 : @LT.lt Nat _ ez l0) (q3 : @LT.lt Nat _ l0 r0) (q4 : @LT.lt Nat _ r0 l1) (q5 : @LT.lt Nat _ l1 r1) (q6 : @LT.lt Nat _ r1 l2) (q7 : @LT.lt Nat _ l2 r2) (q8 : @LT.lt Nat _ r2 l3) (q9 : @LT.lt Nat _ l3 r3) (q10 : @LT.lt Nat _ r3 rs) :
    RowsNew h₀ L rs (R0 eb ez l0 r0 l1 r1 l2 r2 l3 r3) tl h := by
  have N1 := news_tl N
  have N2 := news_tl N1
  have N3 := news_tl N2
  have N4 := news_tl N3
  have N5 := news_tl N4
  have N6 := news_tl N5
  have N7 := news_tl N6
  have N8 := news_tl N7
  have N9 := news_tl N8
  have N10 := news_tl N9
  have g0 := news_hd N
  have g1 := news_hd N1
  have g2 := news_hd N2
  have g3 := news_hd N3
  have g4 := news_hd N4
  have g5 := news_hd N5
  have g6 := news_hd N6
  have g7 := news_hd N7
  have g8 := news_hd N8
  have g9 := news_hd N9
  have g10 := news_hd N10
  have N11 := news_tl N10
  clear N N1 N2 N3 N4 N5 N6 N7 N8 N9 N10
  have gt' : ∀ {x y : Addr}, @LT.lt Nat _ x y → y ≠ x := fun h e => Nat.lt_irrefl _ (e ▸ h)
  have le' : ∀ {x y : Addr}, @LT.lt Nat _ x y → @LE.le Nat _ x y := Nat.le_of_lt
  have t1 : @LT.lt Nat _ eb l0 := Nat.lt_trans q1 q2
  have t2 : @LT.lt Nat _ eb r0 := Nat.lt_trans t1 q3
  have t3 : @LT.lt Nat _ ez r0 := Nat.lt_trans q2 q3
  obtain ⟨R, hR⟩ : ∃ R, R = R0 eb ez l0 r0 l1 r1 l2 r2 l3 r3 := ⟨_, rfl⟩
  have f0 : (R 0).foot = [r0, l0, eb, ez] := hR ▸ rfl
  have f1 : (R 1).foot = [r1, l1] := hR ▸ rfl
  have f2 : (R 2).foot = [r2, l2] := hR ▸ rfl
  have f3 : (R 3).foot = [r3, l3] := hR ▸ rfl
  have wd : ∀ i, i < 4 → ∀ b ∈ (R i).foot, @LE.le Nat _ (pick4 eb l1 l2 l3 i) b ∧ @LE.le Nat _ b (pick4 r0 r1 r2 r3 i) :=
    four_all (f0.symm ▸ all4 ⟨le' t2, Nat.le_refl _⟩ ⟨le' t1, le' q3⟩ ⟨Nat.le_refl _, le' t2⟩ ⟨le' q1, le' t3⟩) (f1.symm ▸ all2 ⟨le' q5, Nat.le_refl _⟩ ⟨Nat.le_refl _, le' q5⟩)
      (f2.symm ▸ all2 ⟨le' q7, Nat.le_refl _⟩ ⟨Nat.le_refl _, le' q7⟩) (f3.symm ▸ all2 ⟨le' q9, Nat.le_refl _⟩ ⟨Nat.le_refl _, le' q9⟩)
  have off : ∀ i, i < 4 → Off h₀ L (R i).foot := four_all (f0.symm ▸ all4 g7.2 g8.2 g10.2 g9.2) (f1.symm ▸ all2 g5.2 g6.2) (f2.symm ▸ all2 g3.2 g4.2) (f3.symm ▸ all2 g1.2 g2.2)
  have k1 : @LT.lt Nat _ eb l1 := Nat.lt_trans t2 q4
  have k2 : @LT.lt Nat _ eb l2 := Nat.lt_trans k1 (Nat.lt_trans q5 q6)
  have k3 : @LT.lt Nat _ eb l3 := Nat.lt_trans k2 (Nat.lt_trans q7 q8)
  have u2 : @LT.lt Nat _ r2 rs := Nat.lt_trans q8 (Nat.lt_trans q9 q10)
  have u1 : @LT.lt Nat _ r1 rs := Nat.lt_trans q6 (Nat.lt_trans q7 u2)
  have u0 : @LT.lt Nat _ r0 rs := Nat.lt_trans q4 (Nat.lt_trans q5 u1)
  have lw : ∀ i, i < 4 → @LE.le Nat _ eb (pick4 eb l1 l2 l3 i) ∧ @LT.lt Nat _ (pick4 r0 r1 r2 r3 i) rs := four_all ⟨Nat.le_refl _, u0⟩ ⟨le' k1, u1⟩ ⟨le' k2, u2⟩ ⟨le' k3, q10⟩
  have up : ∀ b ∈ rfeet R, @LE.le Nat _ eb b ∧ @LT.lt Nat _ b rs := fun b hb => by
    obtain ⟨i, hi, hb⟩ := mem_rfeet.mp hb
    exact ⟨Nat.le_trans (lw i hi).1 (wd i hi b hb).1, Nat.lt_of_le_of_lt (wd i hi b hb).2 (lw i hi).2⟩
  have st : ∀ i, i < 4 → RowSt (R i) h := by
    subst hR
    refine four_all ⟨⟨n7, g7.1⟩, ⟨n8, g8.1⟩, fun p hp => ?_, f0.symm ▸ nodup4 (gt' q3) (gt' t2) (gt' t3) (gt' t1) (gt' q2) (gt' q1).symm⟩ ⟨⟨n5, g5.1⟩, ⟨n6, g6.1⟩, fun p hp => (nomatch hp), f1.symm ▸ nodup2 (gt' q5)⟩
      ⟨⟨n3, g3.1⟩, ⟨n4, g4.1⟩, fun p hp => (nomatch hp), f2.symm ▸ nodup2 (gt' q7)⟩ ⟨⟨n1, g1.1⟩, ⟨n2, g2.1⟩, fun p hp => (nomatch hp), f3.symm ▸ nodup2 (gt' q9)⟩
    rcases List.mem_cons.mp hp with e | hp
    · rw [e]; exact ⟨_, _, n10, g10.1⟩
    · rw [List.mem_singleton.mp hp]; exact ⟨_, _, n9, g9.1⟩
  have ok : ∀ i, i < 4 → (R i).D.length ≤ 3 ∧ (∀ p ∈ (R i).D, PyData.strOk p.2.1 = true) := by
    subst hR
    refine four_all ⟨(by decide : 2 ≤ 3), fun p hp => ?_⟩ ⟨Nat.zero_le 3, fun p hp => (nomatch hp)⟩ ⟨Nat.zero_le 3, fun p hp => (nomatch hp)⟩ ⟨Nat.zero_le 3, fun p hp => (nomatch hp)⟩
    rcases List.mem_cons.mp hp with e | hp
    · rw [e]; exact (by decide +kernel : PyData.strOk (Str.ofString "b") = true)
    · rw [List.mem_singleton.mp hp]; exact (by decide +kernel : PyData.strOk (Str.ofString "z") = true)
  have cc : ∀ i, i < 4 → (R i).c = false ∧ (1 ≤ i → (R i).E = []) := by
    subst hR
    exact four_all ⟨rfl, fun h => absurd h (by decide)⟩ ⟨rfl, fun _ => rfl⟩ ⟨rfl, fun _ => rfl⟩ ⟨rfl, fun _ => rfl⟩
  have ap : ∀ i, i < 4 → ∀ j, j < 4 → i ≠ j → ∀ b ∈ (R i).foot, b ∉ (R j).foot := apart4 (f := fun i => (R i).foot) wd (four_all (le' t2) (le' q5) (le' q7) (le' q9)) (three_all q4 q6 q8)
  rw [← hR]
  refine ⟨⟨st, ap, fun i hi => (ok i hi).1, fun i hi => (ok i hi).2⟩, ⟨n0, by subst hR; exact g0.1⟩, fun b hb => ?_, fun b hb p hp => ?_, fun hb => Nat.lt_irrefl _ (up rs hb).2, by subst hR; rfl, fun j h1 h2 => (cc j h2).2 h1, fun j h2 => (cc j h2).1, fun p hp => (N11 p hp).1⟩
  · rcases List.mem_cons.mp hb with e | hb
    · exact e ▸ g0.2
    · obtain ⟨i, hi, hb⟩ := mem_rfeet.mp hb
      exact off i hi b hb
  · rcases List.mem_cons.mp hb with e | hb
    · exact e ▸ Nat.lt_trans (q0 p hp) (Nat.lt_trans t2 u0)
    · exact Nat.lt_of_lt_of_le (q0 p hp) (up b hb).1
set_option maxRecDepth 100000 in
set_option maxHeartbeats 8000000 in
theorem init_3
   (B : Below A₀ base [] h₀) (F : Fr h₀ L s.heap (fun y => if y = Str.ofString "envs" then some (.ref el) else if y = Str.ofString "well" then some (.ref wl) else m y)) (X : (hd.heap_39 w.params).In h₀) (T : Top VW LO mean mg mb h₀) (hb : bodyOf (hd.heap_39 w.params) 188 = lb) (hc : scopeOf (hd.heap_39 w.params) 188 = cs) (hdp : dp ≤ 310) (hun : un ≤ 20)
   (hst : nth lb 3 = st)
   (N : News h₀ L s.heap tl)
   (k : ∀ h' tk' rs R, RowsNew h₀ L rs R tl h' → Fr h₀ L h' (fun y => if y = Str.ofString "rows" then some (.ref rs) else if y = Str.ofString "envs" then some (.ref el) else if y = Str.ofString "well" then some (.ref wl) else m y) → Q9 .next { s with heap := h', toks := tk' })
   : wpAny (model PR w) (ktrTop dp un gd (Str.ofString "law") cs L a ccd [] []) (exec st (envOf (Str.ofString "law") cs L a ccd)) Q9 E s := by
  have hb0 := hb
  have hc0 := hc
  refine lit_use hb hc (by k_is) ?_
  intro q1 q2
  subst q2
  subst q1
  simp only [nth_0, nth_s] at hst
  subst hst
  clear hb hc
  k_steps
  all_goals try dsimp only
  rename News _ _ _ _ => n9
  rename Fr _ _ _ _ => f9
  exact k _ _ _ _ (rows_close n9 (by assumption) (by omega) (by omega) (by omega) (by omega) (by omega) (by omega) (by omega) (by omega) (by omega) (by omega)) f9
theorem frame_put {hh h1 h2 h3 h4 h5 h6 h7 : Int} {t1 t2 t3 t4 t5 t6 t7 tk tn tq : Tok} {num : Int} {par : Value} {fr fr' : Addr} {lk : Bool} {ls : Addr} {n : Nat} :
    (putL (Str.ofString "frame") hh (.str (Str.ofString "frame") tq) (.ref fr') [⟨h1, .str "kind" t1, .str "environment" tk⟩, ⟨h2, .str "number" t2, .int num tn⟩, ⟨h3, .str "parent" t3, par⟩, ⟨h4, .str "attrs" t4, .none⟩, ⟨h5, .str "frame" t5, .ref fr⟩, ⟨h6, .str "locked" t6, .bool lk⟩, ⟨h7, .str "locks" t7, .ref ls⟩],
     putN (Str.ofString "frame") [⟨h1, .str "kind" t1, .str "environment" tk⟩, ⟨h2, .str "number" t2, .int num tn⟩, ⟨h3, .str "parent" t3, par⟩, ⟨h4, .str "attrs" t4, .none⟩, ⟨h5, .str "frame" t5, .ref fr⟩, ⟨h6, .str "locked" t6, .bool lk⟩, ⟨h7, .str "locks" t7, .ref ls⟩] n) =
    ([⟨h1, .str "kind" t1, .str "environment" tk⟩, ⟨h2, .str "number" t2, .int num tn⟩, ⟨h3, .str "parent" t3, par⟩, ⟨h4, .str "attrs" t4, .none⟩, ⟨h5, .str "frame" t5, .ref fr'⟩, ⟨h6, .str "locked" t6, .bool lk⟩, ⟨h7, .str "locks" t7, .ref ls⟩], n) := rfl
theorem said_InitA_3 : True := by
  (k_with "m k_all" => with_reducible assumption)
  (k_with "m setAttr ref" => (k_here; k_dflt (refine' set_dict ?k1 ?k2 ?k3 ?k4 ?k5 ?k6 ?k7 ?k8 ?k9 ?k10 ?k11 ?k12 ?k13 ?_; (case k1 => k_asm); (case k2 => k_asm); (case k3 => k_asm); (case k4 => k_inst); (case k5 => exact rfl); (case k6 => k_is); (case k7 => k_is); (case k8 => k_is); (case k9 => k_is); (case k10 => k_get); (case k11 => exact frame_put); (case k12 => k_upd); (case k13 => exact Nat.le_of_ble_eq_true rfl)); intro h' F' N'; (try dsimp only)))
  trivial
set_option maxRecDepth 100000 in
set_option maxHeartbeats 8000000 in
theorem init_4
   (B : Below A₀ base [] h₀) (F : Fr h₀ L s.heap (fun y => if y = Str.ofString "rows" then some (.ref rs) else if y = Str.ofString "envs" then some (.ref el) else if y = Str.ofString "well" then some (.ref wl) else m y)) (X : (hd.heap_39 w.params).In h₀) (T : Top VW LO mean mg mb h₀) (hb : bodyOf (hd.heap_39 w.params) 188 = lb) (hc : scopeOf (hd.heap_39 w.params) 188 = cs) (hdp : dp ≤ 310) (hun : un ≤ 20)
   (hst : nth lb 4 = st)
   {eD : ED} {e ed f pl v1 v2 v3 : Addr} {num : Int} {par : Value} {pc : Bool} {ne : Nat}
   (N : News h₀ L s.heap ((e, instObj 127 ed) :: (ed, envD eD num par f pc pl) :: (el, PySem.W.listOf #[.ref e, .ref v1, .ref v2, .ref v3] ne) :: tl)) (y1 : ∀ p ∈ tl, p.1 ≠ ed) (d1 : @Ne Nat e ed) (d2 : @Ne Nat ed el) (d3 : @Ne Nat e el)
   (k : ∀ h' tk' oN kvs, Fr h₀ L h' (fun y => if y = Str.ofString "rows" then some (.ref rs) else if y = Str.ofString "envs" then some (.ref el) else if y = Str.ofString "well" then some (.ref wl) else m y) → News h₀ L h' ((s.heap.objs.size, oN) :: (e, instObj 127 ed) :: (ed, envD eD num par s.heap.objs.size pc pl) :: (el, PySem.W.listOf #[.ref e, .ref v1, .ref v2, .ref v3] ne) :: tl) → oN.IsDictOf (strKind PR w) kvs → FlatPairs PyData.str kvs (frmD [(Str.ofString "b", 900, false), (Str.ofString "z", 901, false)]) → (s.heap.objs.size == sysModules) = false → Q9 .next { s with heap := h', toks := tk' })
   : wpAny (model PR w) (ktrTop dp un gd (Str.ofString "law") cs L a ccd [] []) (exec st (envOf (Str.ofString "law") cs L a ccd)) Q9 E s := by
  have hb0 := hb
  have hc0 := hc
  refine lit_use hb hc (by k_is) ?_
  intro q1 q2
  subst q2
  subst q1
  simp only [nth_0, nth_s] at hst
  subst hst
  clear hb hc
  k_steps
  all_goals try dsimp only
  rename News _ _ _ _ => n9
  rename Fr _ _ _ _ => f9
  rename Obj.IsDictOf _ _ _ => d9
  rename FlatPairs _ _ _ => fp9
  rename (_ == sysModules) = false => lo9
  exact k _ _ _ _ f9 n9 d9 fp9 lo9
end
theorem said_InitA_4 : True := by
  k_with_none
  (k_with "m binaryOp Add str str" => (k_here; (with_reducible show wpAny _ _ (binaryOp Operator.Add (Value.str _ _) (Value.str _ _)) _ _ _); (refine' PyProof.Rows.add_str ?hh ?hsz; (case hsz => (have e1 := litA; have e2 := litB; have e3 := sz_line; (try rw [StrLaws.length_append]); omega)); intro t9 k9)))
  (k_with "m k_room" => first | k_dflt exact room_lt (k := 1) hdp rfl | k_dflt exact room_lt (k := 2) hdp rfl | k_dflt exact room_lt (k := 3) hdp rfl | k_dflt exact room_lt (k := 4) hdp rfl | k_dflt exact room_lt (k := 0) hdp rfl | decide | ((try simp only [depth_mark, depth_under_make, depth_under_kw, depth_in1, depth_deeper, depth_caller]); (try dsimp only [ktrTop]); (show (_ : Nat) < 1000); omega))
  (k_with "m k_units" => first | k_dflt exact unit_lt (k := 0) hun rfl | k_dflt exact unit_lt (k := 1) hun rfl | k_dflt exact unit_lt (k := 2) hun rfl | exact Nat.le_of_ble_eq_true rfl | ((try simp only [units_in1, units_deeper, Around.mark_units, units_caller]); (try dsimp only [ktrTop]); (show (_ : Nat) < 9900); omega))
  (k_with "m exec Raise some none" => (k_here; k_dflt (refine' raise_own ?hh ?_; (case hh => exact rfl))))
  (k_with "m call ref" => (k_here; (with_reducible show wpAny _ _ (call (Value.ref 44) [Value.str _ _]) _ _ _); (rename Fr _ _ _ _ => mF); k_dflt ((refine mk_K (by k_asm) mF (by k_asm) (by k_asm) (by (show (_ : Nat) ≤ 400; dsimp only; omega)) ?_); intro e dx t h' tk hh tm n F' N' st e1 e2 ne X'; (refine ⟨_, _, _, rfl, (N' _ (List.Mem.head _)).1, X', ?_⟩); (try k_unfold); (try dsimp only); (refine leave_refused (by k_asm) mF e1 e2 F' (N' _ (List.Mem.head _)).1 (N' _ (List.Mem.tail _ (List.Mem.head _))).1 (by first | assumption | exact stays_of (by assumption) mF (by k_asm)) st (by assumption) ?_ (by rfl)); intro h9 R9; (try dsimp only))))
  (k_with "m setItem ref str" => (k_here; k_dflt (refine' setItem_K PyProof.V.same_str (strKind_is _ _ _ _) ?v ?F ?N ?U ?d ?f ?_ ?z; (case F => k_asm); (case N => k_asm); (case U => k_updF); (case d => k_asm); (case f => k_asm); (case z => assumption); (case v => k_flat)); intro h' o' F' N' hd' hf'; (try dsimp only at N'); (try k_sweep)))
  (k_with "m M enter" => (refine wpAny_call ?_; k_dflt (refine' enter ?k1 ?k2 ?k3 ?k4 ?k5 ?kA ?kF ?kK ?k6 ?k7 ?k8 ?k9 ?kB ?_ ?c2 ?c3 ?c4 ?c5; (case kA => exact rfl); (case kF => exact rfl); (case kK => first | assumption | exact rfl); (case k1 => k_asm); (case k2 => k_asm); (case k3 => k_asm); (case k4 => k_asm); (case k5 => k_asm); (case k6 => k_is); (case k7 => k_is); (case k8 => (show (_ : Nat) < 1000; dsimp only; omega)); (case k9 => exact BindsTo.of_eq rfl); (case c5 => decide); (case kB => exact locs rfl); (case c2 => exact rfl); (case c3 => exact rfl); (case c4 => exact rfl); k_whole)))
  (k_with "m delItem ref str" => (k_here; k_dflt (refine' kt_del_K PyProof.V.same_str (strKind_is _ _ _ _) ?F ?N ?U ?d ?f ?l ?_ ?z; (case F => k_asm); (case N => k_asm); (case U => k_updF); (case d => k_asm); (case f => k_asm); (case l => first | with_reducible assumption | rfl); (case z => assumption)); intro h' o' F' N' hd' hf'; try dsimp only at N'))
  (k_with "m M room" => first | k_dflt exact room_le (k := 1) hdp rfl | k_dflt exact room_le (k := 0) hun rfl | k_dflt exact room_le (k := 1) hun rfl | k_dflt exact room_le (k := 2) hdp rfl | k_dflt exact room_le (k := 0) hdp rfl | ((try simp only [depth_mark, depth_under_make, depth_under_kw, depth_in1, depth_deeper, depth_caller, units_in1, units_deeper, Around.mark_units, units_caller]); (try dsimp only [ktrTop]); omega))
  (k_with "m call ref" => (k_here; (with_reducible show wpAny _ _ (call (Value.ref 127) [_, _]) _ _ _); (rename Fr _ _ _ _ => mF); (rename News _ _ _ _ => mN); (rename bodyOf _ _ = _ => mB); (rename scopeOf _ _ = _ => mC); k_dflt (refine' env_new2 ?k1 ?k2 ?k3 ?k4 mB mC ?hdp ?hun ?N ?_; (case k1 => k_asm); (case k2 => exact mF); (case N => exact mN); (case k3 => k_asm); (case k4 => k_asm); (case hdp => walk_at "M room"); (case hun => walk_at "M room"); (intro h' tk' p' oE' oD' oF' oL' F' N' y' z1 z2 z3 z4; clear mF mN; (try k_lt z1); (try k_fold)))))
  trivial
end
section
open PySem PySem.W PySem.Calls PyProof.Rows PyProof.V PySem.W.X
set_option linter.unusedVariables false
theorem init_close {w : World} {h₀ h3 h4 : Heap} {L wl rw el rs : Addr} {P : Nat → EP} {R : Nat → RP} {vs : List Value} {xs : List Int} {c ne : Nat} {t u : Tok} {oN : Obj} {kvs : List (Str × Value)} {eD : ED}
    (S : AllSt w P h3) (fr : ∀ j < 4, (P j).E = [] ∧ (P j).cl = false ∧ (P j).k = 2) (oP : Off h₀ L (feet P)) (RR : AllRows R h3) (rE0 : (R 0).E = [(Str.ofString "b", 900, false), (Str.ofString "z", 901, false)]) (rE1 : ∀ j, 1 ≤ j → j < 4 → (R j).E = []) (rc : ∀ j < 4, (R j).c = false) (rat : ∃ n, h3.get? rs = some (rowsOf R n)) (roff : Off h₀ L (rs :: rfeet R)) (rnrs : rs ∉ rfeet R)
    (hw : h3.get? wl = some (PySem.W.listOf #[.int 0 t, .ref rw, .int 0 u] 0)) (hr : h3.get? rw = some (PySem.W.listOf (List.toArray vs) c)) (hI : IntsAre vs xs) (l1 : 1 ≤ xs.length) (l2 : xs.length ≤ 40)
    (ow : wl ≠ L ∧ h₀.get? wl = none) (orw : rw ≠ L ∧ h₀.get? rw = none) (oel : el ≠ L ∧ h₀.get? el = none) (q1 : @LT.lt Nat _ rw wl) (q2 : @LT.lt Nat _ wl el) (q3 : ∀ b ∈ feet P, @LT.lt Nat _ el b) (q4 : ∀ b ∈ rs :: rfeet R, ∀ b' ∈ el :: feet P, @LT.lt Nat _ b' b)
    (n4 : News h₀ L h4 ((h3.objs.size, oN) :: ((P 0).e, instObj 127 (P 0).ed) :: ((P 0).ed, envD eD (P 0).num (P 0).par h3.objs.size (P 0).cl (P 0).l) :: (el, PySem.W.listOf #[.ref (P 0).e, .ref (P 1).e, .ref (P 2).e, .ref (P 3).e] ne) :: rest h3 (foot4 wl rw el rs [] P R) [(P 0).e, (P 0).ed, el]))
    (hd : oN.IsDictOf (strKind PR w) kvs) (hf : FlatPairs PyData.str kvs (frmD [(Str.ofString "b", 900, false), (Str.ofString "z", 901, false)])) (lo : (h3.objs.size == sysModules) = false) :
    ∃ P', St4 w h₀ L wl rw el rs [] xs P' R 0 h4 ∧ Good P' R 2 := by
  have kk := rest_get n4 (fun p hp => .tail _ (.tail _ (.tail _ (.tail _ hp))))
  have z0 := n4 _ (.head _)
  have z1 := n4 _ (.tail _ (.head _))
  have z2 := n4 _ (.tail _ (.tail _ (.head _)))
  have z3 := n4 _ (.tail _ (.tail _ (.tail _ (.head _))))
  have nlt : ∀ {b : Addr} {o : Obj}, h3.get? b = some o → b ≠ h3.objs.size := fun e q => Nat.lt_irrefl _ (q ▸ Heap.lt_size e)
  have lt' : ∀ {x y : Addr}, @LT.lt Nat _ x y → x ≠ y := fun h e => Nat.lt_irrefl _ (e ▸ h)
  have gt' : ∀ {x y : Addr}, @LT.lt Nat _ x y → y ≠ x := fun h e => Nat.lt_irrefl _ (e ▸ h)
  have S0 := S.st 0 (by decide)
  have nP : ∀ b ∈ feet P, b ≠ h3.objs.size := fun b hb => by obtain ⟨o, e⟩ := S.there b hb; exact nlt e
  have nR : ∀ b ∈ rs :: rfeet R, b ≠ h3.objs.size := fun b hb => by
    rcases List.mem_cons.mp hb with rfl | hb
    · obtain ⟨n, e⟩ := rat; exact nlt e
    · obtain ⟨o, e⟩ := RR.there b hb; exact nlt e
  have pin : ∀ i < 4, ∀ b ∈ (P i).foot, b ∈ feet P := fun i hi b hb => mem_feet.mpr ⟨i, hi, hb⟩
  have k0 : ∀ b ∈ rs :: rfeet R, b ∉ [(P 0).e, (P 0).ed, el] := fun b hb q => by
    rcases el3 q with q | q | q
    · exact gt' (q4 b hb (P 0).e (.tail _ (pin 0 (by decide) _ (.head _)))) q
    · exact gt' (q4 b hb (P 0).ed (.tail _ (pin 0 (by decide) _ (.tail _ (.head _))))) q
    · exact gt' (q4 b hb el (.head _)) q
  have ap := S0.apart
  simp only [EP.foot, List.nodup_cons, List.mem_cons, List.not_mem_nil, or_false, not_or, List.nodup_nil, and_true, not_false_eq_true] at ap
  have inw : ∀ b ∈ [wl, rw], b ∉ [(P 0).e, (P 0).ed, el] ∧ b ∉ feet P ∧ @LT.lt Nat _ b el := fun b hb => by
    have hlt : @LT.lt Nat _ b el := by
      rcases el2 hb with z | z
      · rw [z]; exact q2
      · rw [z]; exact Nat.lt_trans q1 q2
    refine ⟨fun q => ?_, fun q => gt' (Nat.lt_trans hlt (q3 b q)) rfl, hlt⟩
    rcases el3 q with q | q | q
    · exact lt' (Nat.lt_trans hlt (q3 _ (pin 0 (by decide) _ (.head _)))) q
    · exact lt' (Nat.lt_trans hlt (q3 _ (pin 0 (by decide) _ (.tail _ (.head _))))) q
    · exact lt' hlt q
  obtain ⟨p', ep⟩ : ∃ p' : EP, p' = { P 0 with f := h3.objs.size, E := [(Str.ofString "b", 900, false), (Str.ofString "z", 901, false)] } := ⟨_, rfl⟩
  have pe : p'.e = (P 0).e := by rw [ep]
  have pf : p'.foot = [(P 0).e, (P 0).ed, h3.objs.size, (P 0).l] := by rw [ep]; rfl
  have pE : p'.E = [(Str.ofString "b", 900, false), (Str.ofString "z", 901, false)] := by rw [ep]
  have hfoot : ∀ i, ∀ b ∈ (setP P 0 p' i).foot, (b = h3.objs.size ∧ i = 0) ∨ b ∈ (P i).foot := fun i b hb => by
    unfold setP at hb
    split at hb
    · rename_i e
      subst e
      rw [pf] at hb
      rcases el4 hb with z | z | z | z
      · rw [z]; exact .inr (.head _)
      · rw [z]; exact .inr (.tail _ (.head _))
      · rw [z]; exact .inl ⟨rfl, rfl⟩
      · rw [z]; exact .inr (.tail _ (.tail _ (.tail _ (.head _))))
    · exact .inr hb
  have hfeet : ∀ b ∈ feet (setP P 0 p'), b = h3.objs.size ∨ b ∈ feet P := fun b hb => by
    obtain ⟨i, hi, hb⟩ := mem_feet.mp hb
    rcases hfoot i b hb with q | q
    · exact .inl q.1
    · exact .inr (pin i hi b q)
  have ee : ∀ j, (setP P 0 p' j).e = (P j).e := setP_of EP.e pe
  have E0 : EnvSt w p' h4 := by
    obtain ⟨oL, kl, D, el4, r1, r2, r3, r4⟩ := S0.locks
    have hN : ∀ x, Spec.lookup (.str x) D = none := fun x => by
      have := r3 x
      rw [(fr 0 (by decide)).1] at this
      exact this
    have hl4 : h4.get? (P 0).l = some oL := kk _ (f4_P (pin 0 (by decide) _ (.tail _ (.tail _ (.tail _ (.head _)))))) (fun q => by
      rcases el3 q with q | q | q
      · exact ap.1.2.2 q.symm
      · exact ap.2.1.2 q.symm
      · exact gt' (q3 _ (pin 0 (by decide) _ (.tail _ (.tail _ (.tail _ (.head _)))))) q) _ el4
    have nf0 := nP _ (pin 0 (by decide) _ (.head _))
    have nf1 := nP _ (pin 0 (by decide) _ (.tail _ (.head _)))
    have nf3 := nP _ (pin 0 (by decide) _ (.tail _ (.tail _ (.tail _ (.head _)))))
    subst ep
    refine ⟨z1.1, ⟨eD, z2.1⟩, ⟨oN, kvs, z0.1, hd, hf⟩, ⟨oL, kl, D, hl4, r1, r2, fun x => ?_, r4⟩, ?_, ?_, lo, S0.lowl, ?_⟩
    · cases q : look x [(Str.ofString "b", (900 : Int), false), (Str.ofString "z", 901, false)] with
      | none => exact hN x
      | some r =>
        obtain ⟨v, b⟩ := r
        cases b with
        | false => exact .inl (hN x)
        | true =>
          unfold look at q
          split at q
          · cases q
          · unfold look at q
            split at q
            · cases q
            · cases q
    · exact (by decide +kernel : ([Str.ofString "b", Str.ofString "z"] : List Str).Nodup)
    · show 2 ≤ (P 0).k
      rw [(fr 0 (by decide)).2.2]; exact Nat.le_refl _
    · show [(P 0).e, (P 0).ed, h3.objs.size, (P 0).l].Nodup
      simp only [List.nodup_cons, List.mem_cons, List.not_mem_nil, or_false, not_or, List.nodup_nil, and_true, not_false_eq_true]
      exact ⟨⟨ap.1.1, nf0, ap.1.2.2⟩, ⟨nf1, ap.2.1.2⟩, nf3.symm⟩
  have pp : ∀ j, (setP P 0 p' j).par = (P j).par := setP_of EP.par (by rw [ep])
  have nn : ∀ j, (setP P 0 p' j).num = (P j).num := setP_of EP.num (by rw [ep])
  refine ⟨setP P 0 p', ⟨⟨fun j hj => ?_, fun j hj => by rw [nn]; exact S.num j hj, by rw [pp]; exact S.par0, fun j hj => by rw [pp, ee]; exact S.par j hj, fun i hi j hj ne b hb hb' => ?_⟩, RR.keep fun b hb o e => kk b (f4_R hb) (k0 b (.tail _ hb)) o e,
    ⟨⟨0, t, u, 0, kk wl (f4_h (by simp)) (inw wl (.head _)).1 _ hw⟩, ⟨vs, c, kk rw (f4_h (by simp)) (inw rw (.tail _ (.head _))).1 _ hr, hI⟩, l1, l2, by decide, by decide⟩, ⟨ne, by rw [ee, ee, ee, ee]; exact z3.1⟩, ?_, fun b hb => ?_, ?_, fun b hb q => ?_, fun b hb q => ?_, fun b hb q => ?_, fun p hp => (nomatch hp), fun p hp => (nomatch hp)⟩,
    ⟨fun j hj => ?_, fun j h1 h2 => ?_, ?_, fun j hj => ?_⟩⟩
  · unfold setP; split
    · exact E0
    · rename_i ne
      exact (S.st j hj).keep fun b hb o e => kk b (f4_P (pin j hj b hb)) (fun q => by
        rcases el3 q with q | q | q
        · exact S.apart j hj 0 (by decide) ne b hb (q ▸ .head _)
        · exact S.apart j hj 0 (by decide) ne b hb (q ▸ .tail _ (.head _))
        · exact gt' (q3 b (pin j hj b hb)) q) o e
  · rcases hfoot i b hb with q | q
    · rcases hfoot j b hb' with r | r
      · exact ne (q.2.trans r.2.symm)
      · exact nP b (pin j hj b r) q.1
    · rcases hfoot j b hb' with r | r
      · exact nP b (pin i hi b q) r.1
      · exact S.apart i hi j hj ne b q r
  · obtain ⟨n, e⟩ := rat
    exact ⟨n, kk rs (f4_h (by simp)) (k0 rs (.head _)) _ e⟩
  · rcases foot4_nil.mp hb with hb | hb | hb
    · rcases el4 hb with z | z | z | z
      · rw [z]; exact ow
      · rw [z]; exact orw
      · rw [z]; exact oel
      · rw [z]; exact roff _ (.head _)
    · rcases hfeet b hb with rfl | hb
      · exact z0.2
      · exact oP b hb
    · exact roff b (.tail _ hb)
  · have r1 : @LT.lt Nat _ el rs := q4 rs (.head _) el (.head _)
    simp only [List.nodup_cons, List.mem_cons, List.not_mem_nil, or_false, not_or, List.nodup_nil, and_true, not_false_eq_true]
    exact ⟨⟨gt' q1, lt' q2, lt' (Nat.lt_trans q2 r1)⟩, ⟨lt' (Nat.lt_trans q1 q2), lt' (Nat.lt_trans q1 (Nat.lt_trans q2 r1))⟩, lt' r1⟩
  · have hh : ∀ x ∈ [wl, rw, el, rs], x ≠ h3.objs.size := fun x hx => by
      rcases el4 hx with z | z | z | z
      · rw [z]; exact nlt hw
      · rw [z]; exact nlt hr
      · rw [z]
        intro e
        have := q4 rs (.head _) el (.head _)
        obtain ⟨n, e'⟩ := rat
        exact Nat.lt_irrefl _ (Nat.lt_trans (e ▸ this) (Heap.lt_size e'))
      · rw [z]; exact nR _ (.head _)
    rcases hfeet b hb with rfl | hb
    · exact hh _ q rfl
    · rcases el4 q with q | q | q | q
      · exact (inw wl (.head _)).2.1 (q ▸ hb)
      · exact (inw rw (.tail _ (.head _))).2.1 (q ▸ hb)
      · exact gt' (q3 b hb) q
      · exact lt' (q4 rs (.head _) b (.tail _ hb)) q
  · have r1 := q4 b (.tail _ hb) el (.head _)
    rcases el4 q with q | q | q | q
    · exact gt' (Nat.lt_trans q2 r1) q
    · exact gt' (Nat.lt_trans q1 (Nat.lt_trans q2 r1)) q
    · exact gt' r1 q
    · exact rnrs (q ▸ hb)
  · rcases hfeet b hb with rfl | hb
    · exact nR _ (.tail _ q) rfl
    · exact lt' (q4 b (.tail _ q) b (.tail _ hb)) rfl
  · rcases Nat.eq_zero_or_pos j with rfl | h
    · unfold setP; rw [if_pos rfl, pE]
      exact ⟨rE0, by rw [rc 0 hj, ep]; exact (fr 0 hj).2.1.symm⟩
    · unfold setP; rw [if_neg (by omega), rE1 j h hj, rc j hj]
      exact ⟨(fr j hj).1.symm, (fr j hj).2.1.symm⟩
  · unfold setP; rw [if_neg (by omega), (fr j h2).1]
    exact ⟨.nil, fun p hp => nomatch hp⟩
  · unfold setP; rw [if_pos rfl]; exact pE
  · unfold setP; split
    · rw [ep]; exact Nat.le_of_eq (fr 0 (by decide)).2.2
    · exact Nat.le_of_eq (fr j hj).2.2
end
section
open PySem PySem.W PySem.Calls PyProof.Rows PyProof.V PySem.W.X
set_option linter.unusedVariables false
theorem said_LawJ_1 : True := by
  k_with_none
  (k_with "m binaryOp Add str str" => (k_here; (with_reducible show wpAny _ _ (binaryOp Operator.Add (Value.str _ _) (Value.str _ _)) _ _ _); (refine' PyProof.Rows.add_str ?hh ?hsz; (case hsz => (have e1 := litA; have e2 := litB; have e3 := sz_line; (try rw [StrLaws.length_append]); omega)); intro t9 k9)))
  (k_with "m k_room" => first | k_dflt exact room_lt (k := 1) hdp rfl | k_dflt exact room_lt (k := 2) hdp rfl | k_dflt exact room_lt (k := 3) hdp rfl | k_dflt exact room_lt (k := 4) hdp rfl | k_dflt exact room_lt (k := 0) hdp rfl | decide | ((try simp only [depth_mark, depth_under_make, depth_under_kw, depth_in1, depth_deeper, depth_caller]); (try dsimp only [ktrTop]); (show (_ : Nat) < 1000); omega))
  (k_with "m k_units" => first | k_dflt exact unit_lt (k := 0) hun rfl | k_dflt exact unit_lt (k := 1) hun rfl | k_dflt exact unit_lt (k := 2) hun rfl | exact Nat.le_of_ble_eq_true rfl | ((try simp only [units_in1, units_deeper, Around.mark_units, units_caller]); (try dsimp only [ktrTop]); (show (_ : Nat) < 9900); omega))
  (k_with "m exec Raise some none" => (k_here; k_dflt (refine' raise_own ?hh ?_; (case hh => exact rfl))))
  (k_with "m call ref" => (k_here; (with_reducible show wpAny _ _ (call (Value.ref 44) [Value.str _ _]) _ _ _); (rename Fr _ _ _ _ => mF); k_dflt ((refine mk_K (by k_asm) mF (by k_asm) (by k_asm) (by (show (_ : Nat) ≤ 400; dsimp only; omega)) ?_); intro e dx t h' tk hh tm n F' N' st e1 e2 ne X'; (refine ⟨_, _, _, rfl, (N' _ (List.Mem.head _)).1, X', ?_⟩); (try k_unfold); (try dsimp only); (refine leave_refused (by k_asm) mF e1 e2 F' (N' _ (List.Mem.head _)).1 (N' _ (List.Mem.tail _ (List.Mem.head _))).1 (by first | assumption | exact stays_of (by assumption) mF (by k_asm)) st (by assumption) ?_ (by rfl)); intro h9 R9; (try dsimp only))))
  (k_with "m setItem ref str" => (k_here; k_dflt (refine' setItem_K PyProof.V.same_str (strKind_is _ _ _ _) ?v ?F ?N ?U ?d ?f ?_ ?z; (case F => k_asm); (case N => k_asm); (case U => k_updF); (case d => k_asm); (case f => k_asm); (case z => assumption); (case v => k_flat)); intro h' o' F' N' hd' hf'; (try dsimp only at N'); (try k_sweep)))
  (k_with "m M enter" => (refine wpAny_call ?_; k_dflt (refine' enter ?k1 ?k2 ?k3 ?k4 ?k5 ?kA ?kF ?kK ?k6 ?k7 ?k8 ?k9 ?kB ?_ ?c2 ?c3 ?c4 ?c5; (case kA => exact rfl); (case kF => exact rfl); (case kK => first | assumption | exact rfl); (case k1 => k_asm); (case k2 => k_asm); (case k3 => k_asm); (case k4 => k_asm); (case k5 => k_asm); (case k6 => k_is); (case k7 => k_is); (case k8 => (show (_ : Nat) < 1000; dsimp only; omega)); (case k9 => exact BindsTo.of_eq rfl); (case c5 => decide); (case kB => exact locs rfl); (case c2 => exact rfl); (case c3 => exact rfl); (case c4 => exact rfl); k_whole)))
  (k_with "m delItem ref str" => (k_here; k_dflt (refine' kt_del_K PyProof.V.same_str (strKind_is _ _ _ _) ?F ?N ?U ?d ?f ?l ?_ ?z; (case F => k_asm); (case N => k_asm); (case U => k_updF); (case d => k_asm); (case f => k_asm); (case l => first | with_reducible assumption | rfl); (case z => assumption)); intro h' o' F' N' hd' hf'; try dsimp only at N'))
  (k_with "m M room" => first | k_dflt exact room_le (k := 1) hdp rfl | k_dflt exact room_le (k := 0) hun rfl | k_dflt exact room_le (k := 1) hun rfl | k_dflt exact room_le (k := 2) hdp rfl | k_dflt exact room_le (k := 0) hdp rfl | ((try simp only [depth_mark, depth_under_make, depth_under_kw, depth_in1, depth_deeper, depth_caller, units_in1, units_deeper, Around.mark_units, units_caller]); (try dsimp only [ktrTop]); omega))
  trivial
section
variable {w : World} {mean : ExcName → Option Value} {mg mb : Str → Option Value} {dp un : Nat} {gd : Option (List Code)} {cs : Scope} {a : Addr} {ccd : Value} {A₀ : Around} {base h₀ : Heap} {L : Addr} {m : Str → Option Value} {s : Shared} {Q E : Value → Shared → Prop} {Q9 : Flow → Shared → Prop} {n : Nat} {st : Stmt} {tp : Tok} {hvs : List Value} {hs : List Str} {H : Addr} {ch : Nat}
  {x : Str} {tx : Tok} {v : Int} {tv : Tok} {R : Nat → RP} {P : Nat → EP} {wl rw el rs : Addr} {ex : List (Addr × Obj)} {xs : List Int} {sp : Int} {i : Nat} {sc : Addr} {ws : List Value} {xs0 : List Int} {oW oR : Obj} {tb : List Stmt} {lb : List Stmt} {r1 l1 e1 e2 e3 : Addr} {x1 x2 x3 : Str} {v1 v2 v3 : Int} {b1 b2 b3 c : Bool}
set_option maxRecDepth 100000 in
set_option maxHeartbeats 8000000 in
theorem init_1
   (B : Below A₀ base [] h₀) (F : Fr h₀ L s.heap (fun y => if y = Str.ofString "well" then some (.ref wl) else m y)) (X : (hd.heap_39 w.params).In h₀) (T : Top VW LO mean mg mb h₀) (hb : bodyOf (hd.heap_39 w.params) 188 = lb) (hc : scopeOf (hd.heap_39 w.params) 188 = cs) (hdp : dp ≤ 310) (hun : un ≤ 20)
   (hst : nth lb 1 = st)
   (N : News h₀ L s.heap [(wl, oW), (rw, oR)])
   (k : ∀ h' tk' el, Fr h₀ L h' (fun y => if y = Str.ofString "envs" then some (.ref el) else if y = Str.ofString "well" then some (.ref wl) else m y) → News h₀ L h' [(el, PySem.W.listOf #[] 0), (wl, oW), (rw, oR)] → @LT.lt Nat _ wl el → @LT.lt Nat _ rw el → Q9 .next { s with heap := h', toks := tk' })
   : wpAny (model PR w) (ktrTop dp un gd (Str.ofString "law") cs L a ccd [] []) (exec st (envOf (Str.ofString "law") cs L a ccd)) Q9 E s := by
  have hb0 := hb
  have hc0 := hc
  refine lit_use hb hc (by k_is) ?_
  intro q1 q2
  subst q2
  subst q1
  simp only [nth_0, nth_s] at hst
  subst hst
  clear hb hc
  k_steps
  all_goals try dsimp only
  rename News _ _ _ _ => n9
  rename Fr _ _ _ _ => f9
  exact k _ _ _ f9 n9 (by omega) (by omega)
set_option maxRecDepth 100000 in
set_option maxHeartbeats 8000000 in
theorem law_all
   (B : Below A₀ base [] h₀) (F : Fr h₀ L s.heap (fun y => List.lookup y [(Str.ofString "script", Value.ref sc)].reverse)) (X : (hd.heap_39 w.params).In h₀) (T : Top VW LO mean mg mb h₀) (hb : bodyOf (hd.heap_39 w.params) 188 = lb) (hc : scopeOf (hd.heap_39 w.params) 188 = cs) (hdp : dp ≤ 310) (hun : un ≤ 20) (XB : (hd.heap_39 w.params).In base) (TB : Top VW LO mean mg mb base) (hE : PassesOwn (model PR w) (ktrTop dp un gd (Str.ofString "law") cs L a ccd [] []) (envOf (Str.ofString "law") cs L a ccd) E)
   (hl : h₀.IsList sc (List.toArray ws)) (hI : IntsAre ws xs0) (hlen : xs0.length ≤ 63)
   (k : ∀ h' tk' m', Fr h₀ L h' m' → Q9 (.ret (.bool true)) { s with heap := h', toks := tk' })
   : wpAny (model PR w) (ktrTop dp un gd (Str.ofString "law") cs L a ccd [] []) (execs lb (envOf (Str.ofString "law") cs L a ccd)) Q9 E s := by
  have hb0 := hb
  have hc0 := hc
  refine lit_use hb hc (by k_is) ?_
  intro q1 q2
  subst q2
  subst q1
  clear hb hc
  have lt' : ∀ {x y : Addr}, @LT.lt Nat _ x y → x ≠ y := fun h e => Nat.lt_irrefl _ (e ▸ h)
  with_reducible refine cut_cons ?_
  intro Q1 n1 r1
  refine init_0 B F X T hb0 hc0 hdp hun rfl hl hI hlen fun h1 tk1 wl rw vs t u c F1 N1 I1 q1 => n1 _ ?_
  with_reducible refine cut_cons ?_
  intro Q2 n2 r2
  refine init_1 B F1 X T hb0 hc0 hdp hun rfl N1 fun h2 tk2 el F2 N2 d1 d2 => n2 _ ?_
  have oel := (N2 _ (.head _)).2
  have ow := (N2 _ (.tail _ (.head _))).2
  have orw := (N2 _ (.tail _ (.tail _ (.head _)))).2
  with_reducible refine cut_cons ?_
  intro Q3 n3 r3
  refine init_2 B F2 X T hb0 hc0 hdp hun hE rfl N2 d1 d2 (fun e => lt' q1 (show wl = rw from e).symm) fun h3 tk3 P m3 H4 g1 g2 F3 e1 e2 => n3 _ ?_
  rw [map2' e1 e2] at F3
  obtain ⟨ne0, ge⟩ := H4.els
  have N3 := nc ⟨ge, oel⟩ (nc ⟨g1, ow⟩ (nc ⟨g2, orw⟩ (news_snap (h := h3) H4.off)))
  with_reducible refine cut_cons ?_
  intro Q4 n4 r4
  with_reducible refine init_3 B F3 X T hb0 hc0 hdp hun ?hst N3 ?k
  case hst => exact rfl
  intro h4 tk4 rs R RN F4
  with_reducible refine n4 _ ?_
  have S4 : AllSt w P h4 := H4.env.keep fun b hb o e => RN.keep (b, o) (.tail _ (.tail _ (.tail _ (mem_snap.mpr ⟨hb, e⟩))))
  have ge4 := RN.keep _ (.head _)
  have gw4 := RN.keep _ (.tail _ (.head _))
  have gr4 := RN.keep _ (.tail _ (.tail _ (.head _)))
  obtain ⟨eD, Ed⟩ := (S4.st 0 (by decide)).idict
  have inP : ∀ b ∈ (P 0).foot, b ∈ feet P := fun b hb => mem_feet.mpr ⟨0, by decide, hb⟩
  have ap := (S4.st 0 (by decide)).apart
  have offA : Off h₀ L (foot4 wl rw el rs [] P R) := fun b hb => by
    rcases foot4_nil.mp hb with hb | hb | hb
    · rcases el4 hb with z | z | z | z
      · rw [z]; exact ow
      · rw [z]; exact orw
      · rw [z]; exact oel
      · rw [z]; exact RN.off _ (.head _)
    · exact H4.off b hb
    · exact RN.off b (.tail _ hb)
  have x1 : @Ne Nat (P 0).e (P 0).ed := fun q => by simp [EP.foot, show (P 0).e = (P 0).ed from q] at ap
  have x2 : @Ne Nat (P 0).ed el := fun q => lt' (H4.above _ (inP _ (.tail _ (.head _)))) (show (P 0).ed = el from q).symm
  have x3 : @Ne Nat (P 0).e el := fun q => lt' (H4.above _ (inP _ (.head _))) (show (P 0).e = el from q).symm
  have N4 := nc ⟨(S4.st 0 (by decide)).inst, H4.off _ (inP _ (.head _))⟩ (nc ⟨Ed, H4.off _ (inP _ (.tail _ (.head _)))⟩ (nc ⟨ge4, oel⟩ (rest_news (h := h4) (A := [(P 0).e, (P 0).ed, el]) offA)))
  with_reducible refine cut_cons ?_
  intro Q5 n5 r5
  have y1 : ∀ p ∈ rest h4 (foot4 wl rw el rs [] P R) [(P 0).e, (P 0).ed, el], p.1 ≠ (P 0).ed := rest_ne (.tail _ (.head _))
  with_reducible refine init_4 B F4 X T hb0 hc0 hdp hun ?hst4 N4 y1 x1 x2 x3 ?k4
  case hst4 => exact rfl
  intro h5 tk5 oN kvs F5 N5 d9 f9 lo9
  with_reducible refine n5 _ ?_
  have ll : (List.take 40 (xs0 ++ [0])).length = min 40 (xs0.length + 1) := by rw [List.length_take, List.length_append]; rfl
  obtain ⟨P', S5, G5⟩ := init_close S4 H4.fresh H4.off RN.rows RN.E0 RN.E1 RN.c RN.at_ RN.off RN.nrs gw4 gr4 I1 (by omega) (by omega) ow orw oel q1 d1 H4.above (fun b hb b' hb' => by
    rcases List.mem_cons.mp hb' with rfl | hb'
    · exact RN.above b hb _ (.head _)
    · obtain ⟨o, e⟩ := H4.env.there b' hb'
      exact RN.above b hb (b', o) (.tail _ (.tail _ (.tail _ (mem_snap.mpr ⟨hb', e⟩))))) N5 d9 f9 lo9
  rw [map3 (z1 := Str.ofString "well") (z2 := Str.ofString "envs") (z3 := Str.ofString "rows") (M := fun y => if y = Str.ofString "rows" then some (.ref rs) else if y = Str.ofString "envs" then some (.ref el) else if y = Str.ofString "well" then some (.ref wl) else m3 y) rfl rfl rfl] at F5
  with_reducible refine law_tail B F5 X T hb0 hc0 hdp hun XB TB hE ?hst5 S5 G5 ?n1 ?n2 ?k5
  case hst5 => exact rfl
  case n1 => decide
  case n2 => decide
  case k5 => exact k
end
end
section
open PySem PySem.W PySem.Calls PyProof.Rows PyProof.V PySem.W.X
set_option linter.unusedVariables false
theorem bodyOf_eq {K : Frag} {f : Addr} {body : List Stmt} {scope : Scope} {name qual : Str} {params : Arguments} {dV kV doc pm cdv ct oc : Value} {an od : Option Addr} {osl : Array (Option Value)}
    (ho : K.lookup f = some ⟨oc, od, .func (fnOf name qual params body scope dV kV doc pm an cdv ct), osl⟩) : bodyOf K f = body := by unfold bodyOf; rw [ho]
theorem scopeOf_eq {K : Frag} {f : Addr} {body : List Stmt} {scope : Scope} {name qual : Str} {params : Arguments} {dV kV doc pm cdv ct oc : Value} {an od : Option Addr} {osl : Array (Option Value)}
    (ho : K.lookup f = some ⟨oc, od, .func (fnOf name qual params body scope dV kV doc pm an cdv ct), osl⟩) : scopeOf K f = scope := by unfold scopeOf; rw [ho]
theorem top_is (n : Str) (sc : Scope) (L a : Addr) (cd : Value) : callerA.deeper (envOf n sc L a cd) = ktrTop 302 7 (some []) n sc L a cd [] [] := rfl
set_option maxRecDepth 100000 in
set_option maxHeartbeats 8000000 in
theorem holds : PySem.Challenge.rw_nz0462_01.Holds := Mine.hd (by
  k_go0
  dsimp only
  rw [top_is]
  rename Below callerA _ _ _ => zB
  rename Fr _ _ _ _ => zF
  rename Frag.In _ _ => zX
  rename Top _ _ _ _ _ _ => zT
  rename Heap.IsList _ _ _ => zL
  rename IntsAre _ _ => zI
  rename ¬ _ < _ => zc
  with_reducible refine' law_all ?z9B ?z9F ?z9X ?z9T ?z9hb ?z9hc ?z9hdp ?z9hun ?z9XB ?z9TB ?z9hE ?z9hl ?z9hI ?z9hlen ?z9k
  case z9B => exact zB
  case z9F => exact zF
  case z9X => exact zX
  case z9T => exact zT
  case z9XB => exact zX
  case z9TB => exact zT
  case z9hb => exact bodyOf_eq (by k_is)
  case z9hc => exact scopeOf_eq (by k_is)
  case z9hdp => decide
  case z9hun => decide
  case z9hE => passes_own
  case z9hl => exact zL
  case z9hI => exact zI
  case z9hlen => omega
  case z9k =>
    intro h9 tk9 m9 F9
    dsimp only
    k_steps
    all_goals (try k_data))
end
end Mine
set_option maxRecDepth 100000 in
set_option maxHeartbeats 8000000 in
theorem PySem.Challenge.cw_nz0462_01_holds : PySem.Challenge.rw_nz0462_01.Holds := by
  exact Mine.holds
